import PyProof.Rows.All
import Wide.All
import OpenK.AllK
import Wide.FinOn
import HandS.ForMost
import HandS.Defaults
import HandS.WideBits
import HandS.Conv
import HandS.IsInst
import HandS.RaiseMore
import HandS.SortInts
import HandS.Style
import HandS.Codes
import HandS.ForExc
import HandS.TryMany
import HandS.Flow
import KE.KEqSeq
import PyProof.ReprRoads
import KE.GoesMore
import KE.KDictZip
import PyProof.ListNew
import PySem.Challenge.RW_joinedasks_k84_toggles_told
set_option Elab.async false
set_option linter.all false
set_option maxRecDepth 100000
set_option maxHeartbeats 4000000
set_option exponentiation.threshold 100000
namespace Toy
open PySem PySem.Spec PyProof.Rows L2
/-- a def of the text stands behind its name -/
structure Df (K : PySem.W.Frag) (mg : Str → Option Value) (x : Str) (st : Stmt) (ps : List Str) : Prop where
  ex : ∃ f fd, Fun K x x st f fd ∧ mg x = some (.ref f) ∧ Binds K fd ps []
theorem Df.of {K : PySem.W.Frag} {mg : Str → Option Value} {x : Str} {st : Stmt} {ps : List Str} {f : Addr} {oc : Value} {od an : Option Addr} {osl : Array (Option Value)} {kV doc pm cdv ct : Value}
    (l : K.lookup f = some ⟨oc, od, .func (PySem.W.fnOf x x (defArgs st) (defBody st) (defScope st) .none kV doc pm an cdv ct), osl⟩) (c : PySem.W.codeIn K cdv x = true) (k : PySem.W.keepIn K (.ref f) = true) (m : mg x = some (.ref f))
    (h : ∀ (kV doc pm : Value) (an : Option Addr) (cdv ct : Value) (us : List Value), us.length = ps.length → bindArgs (PySem.W.fnOf x x (defArgs st) (defBody st) (defScope st) .none kV doc pm an cdv ct) ⟨us, []⟩ = pure (ps.zip us)) : Df K mg x st ps :=
  ⟨_, _, fun_mk l c k, m, (fun_mk l c k).binds h⟩
end Toy
namespace Toy
open PySem PySem.Spec PyProof.Rows L2
/-- room for calls, and nothing is being shown (repr, str of containers ask that) -/
structure RoomG (k : Nat) (A : Around) : Prop where
  room : Room k A
  idle : A.guards = some []
theorem RoomG.less {j k : Nat} {A : Around} (r : RoomG k A) (h : j ≤ k) : RoomG j A := ⟨r.room.mono h, r.idle⟩
theorem RoomG.units {k : Nat} {A : Around} (r : RoomG k A) : A.units + 64 < cLine := r.room.units
theorem RoomG.in_ {k : Nat} {A : Around} (r : RoomG (k + 1) A) (env : Env) : RoomG k (A.deeper env) := ⟨r.room.deeper env, r.idle⟩
/-- a def's promise under such a call -/
structure FnG (P : Program) (w : World) (K : PySem.W.Frag) (mg : Str → Option Value) (base : Heap) (CX : CXT) (k : Nat) (f : Addr) (fd : FuncData) (ps : List Str) (sp : Sp) : Prop where
  arity : ∀ vs H Q E, sp vs H Q E → vs.length = ps.length
  go : ∀ {A : Around} {outer : List Env} {s : Shared} {H : Hp} {args : Args} {us : List Value} {vs : List V} {Q : VK} {E : XK}, RoomG k A → Env0 P w K mg base A outer s H →
    BindsTo s fd args (ps.zip us) → Vals vs us → sp vs H Q E → codeAny (model P w) A (.call (.ref f) args) (CR CX outer P w H s Q E) s
section
variable {P : Program} {w : World} {K : PySem.W.Frag} {mg : Str → Option Value} {base : Heap} {CX : CXT}
/-- a body that ends well ends the call well -/
theorem flow_end {N : List Str} {qual : Str} {scope : Scope} {f : Addr} {cd : Value} {A : Around} {outer : List Env} {s : Shared} {H : Hp} {Q : VK} {E : XK} {fl : Flow} {s' : Shared}
    (h : SP (cxOf CX P w K mg base N qual scope f cd A outer s H E) [] { nx := fun _ H' => Q .non H', rt := Q } fl s') :
    ∃ u, (fl = .next ∧ u = Value.none ∨ fl = .ret u) ∧ CE outer P w H s Q u s' := by
  cases fl with
  | next =>
    obtain ⟨σ, H1, J, q⟩ := h
    exact ⟨_, .inl ⟨rfl, rfl⟩, .non, H1, J.os, J.bare, J.base, J.hok, rfl, q⟩
  | ret u =>
    obtain ⟨v, σ, H1, J, r, q⟩ := h
    exact ⟨u, .inr rfl, v, H1, J.os, J.bare, J.base, J.hok, r, q⟩
  | brk =>
    obtain ⟨_, _, _, q⟩ := h
    cases q
  | cont =>
    obtain ⟨_, _, _, q⟩ := h
    cases q
/-- a def of the text, whatever its defaults -/
structure FunA (K : PySem.W.Frag) (x qual : Str) (st : Stmt) (f : Addr) (fd : FuncData) : Prop where
  ex : ∃ (oc : Value) (od : Option Addr) (dV kV doc pm : Value) (an : Option Addr) (cdv ct : Value) (osl : Array (Option Value)),
    fd = PySem.W.fnOf x qual (defArgs st) (defBody st) (defScope st) dV kV doc pm an cdv ct ∧ K.lookup f = some ⟨oc, od, .func fd, osl⟩ ∧ PySem.W.codeIn K cdv qual = true
theorem toA {K : PySem.W.Frag} {x qual : Str} {st : Stmt} {f : Addr} {fd : FuncData} (F : Fun K x qual st f fd) : FunA K x qual st f fd := by
  obtain ⟨oc, od, kV, doc, pm, an, cdv, ct, osl, e, lk, hcd⟩ := F.ex
  exact ⟨⟨oc, od, .none, kV, doc, pm, an, cdv, ct, osl, e, lk, hcd⟩⟩
theorem okGA {x qual : Str} {st : Stmt} {f : Addr} {fd : FuncData} {N ps : List Str} {k : Nat} {sp : Sp} (F : FunA K x qual st f fd) (S : FnScope N ps (defScope st)) (ar : ∀ vs H Q E, sp vs H Q E → vs.length = ps.length)
    (body : ∀ (cdv : Value) (A : Around) (outer : List Env) (s : Shared) (H : Hp) (vs : List V) (Q : VK) (E : XK), RoomG k (A.deeper (envOfC qual (defScope st) s.heap.objs.size f cdv)) → sp vs H Q E →
      ∃ t, PSs (cxOf CX P w K mg base N qual (defScope st) f cdv A outer s H E) (defBody st) t ∧ t { nx := fun _ H' => Q .non H', rt := Q } (start N vs) H) : FnG P w K mg base CX (k + 1) f fd ps sp := by
  obtain ⟨oc, od, dV, kV, doc, pm, an, cdv, ct, osl, rfl, lk, hcd⟩ := F.ex
  refine ⟨ar, ?_⟩
  intro A outer s H args us vs Q E room e0 hb rv hsp
  have kin : K.In s.heap := e0.mod.kin.keeps fun b o z => (e0.bs b o z).1
  have nolim : s.heap.NoLimit := e0.mod.nolimit.keeps fun b o z => (e0.bs b o z).1
  have kinds : ∀ y ∈ ps.zip us, (defScope st).names.lookup y.1 = some .local ∨ ((defScope st).names.lookup y.1 = some .cell ∧ ((cellsFrom (s.heap.objs.size + 1) (defScope st).names []).lookup y.1).isSome = true) := by
    rintro ⟨n, v⟩ hy
    exact (S.par n (List.of_mem_zip hy).1).imp _root_.id fun q => ⟨q, PySem.W.cellsFrom_some _ _ _ (.inl q)⟩
  refine codeAny_call_function room.room.depth (kin _ _ lk) rfl S.co S.gen rfl (PySem.W.codeRec_of kin hcd) (hb _ _ _ _ (wpAny_newFunctionEnv_cells S.kind kinds fun env he s1 inC => ?_))
  subst he
  obtain ⟨t, ht, hq⟩ := body cdv A outer s H vs Q E (room.in_ _) hsp
  refine ⟨nolim.keeps inC.toInCall.keep, codeAny_func (wpAny_mono (ht.run [] s1 (start N vs) H _ (inv_start S room.room.hd e0 (ar _ _ _ _ hsp) rv inC) hq) (fun fl s' z => ?_) fun e s' z => z)⟩
  obtain ⟨u, c, q⟩ := flow_end z
  rcases c with ⟨rfl, rfl⟩ | rfl
  · exact q
  · exact q
theorem okG0A {x qual : Str} {st : Stmt} {f : Addr} {fd : FuncData} {N ps : List Str} {k : Nat} {sp : Sp} (F : FunA K x qual st f fd) (S : FnScope N ps (defScope st)) (ar : ∀ vs H Q E, sp vs H Q E → vs.length = ps.length)
    (body : ∀ (cdv : Value) (A : Around) (outer : List Env) (s : Shared) (H : Hp) (vs : List V) (Q : VK) (E : XK), RoomG k (A.deeper (envOfC qual (defScope st) s.heap.objs.size f cdv)) → sp vs H Q E →
      ∃ t, PSs (cxOf CX0 P w K mg base N qual (defScope st) f cdv A outer s H E).nox (defBody st) t ∧ t { nx := fun _ H' => Q .non H', rt := Q } (start N vs) H) : FnG P w K mg base CX0 (k + 1) f fd ps sp :=
  okGA F S ar fun cdv A outer s H vs Q E hr hsp => (body cdv A outer s H vs Q E hr hsp).imp fun _ z => ⟨z.1.nox, z.2⟩
theorem okG {x qual : Str} {st : Stmt} {f : Addr} {fd : FuncData} {N ps : List Str} {k : Nat} {sp : Sp} (F : Fun K x qual st f fd) (S : FnScope N ps (defScope st)) (ar : ∀ vs H Q E, sp vs H Q E → vs.length = ps.length)
    (body : ∀ (cdv : Value) (A : Around) (outer : List Env) (s : Shared) (H : Hp) (vs : List V) (Q : VK) (E : XK), RoomG k (A.deeper (envOfC qual (defScope st) s.heap.objs.size f cdv)) → sp vs H Q E →
      ∃ t, PSs (cxOf CX P w K mg base N qual (defScope st) f cdv A outer s H E) (defBody st) t ∧ t { nx := fun _ H' => Q .non H', rt := Q } (start N vs) H) : FnG P w K mg base CX (k + 1) f fd ps sp :=
  okGA (toA F) S ar body
theorem okG0 {x qual : Str} {st : Stmt} {f : Addr} {fd : FuncData} {N ps : List Str} {k : Nat} {sp : Sp} (F : Fun K x qual st f fd) (S : FnScope N ps (defScope st)) (ar : ∀ vs H Q E, sp vs H Q E → vs.length = ps.length)
    (body : ∀ (cdv : Value) (A : Around) (outer : List Env) (s : Shared) (H : Hp) (vs : List V) (Q : VK) (E : XK), RoomG k (A.deeper (envOfC qual (defScope st) s.heap.objs.size f cdv)) → sp vs H Q E →
      ∃ t, PSs (cxOf CX0 P w K mg base N qual (defScope st) f cdv A outer s H E).nox (defBody st) t ∧ t { nx := fun _ H' => Q .non H', rt := Q } (start N vs) H) : FnG P w K mg base CX0 (k + 1) f fd ps sp :=
  okG0A (toA F) S ar body
end
section
variable {X : Cx} {CX : CXT} {k : Nat} {f : Addr} {fd : FuncData} {ps : List Str} {sp : Sp}
theorem run_G {pins : List (Addr × Obj)} {σ : L2.St} {H : Hp} {s : Shared} {Q : VK} {E : XK} {us : List Value} {vs : List V} (F : FnG X.prog X.w X.K X.mg X.base CX k f fd ps sp) (hr : RoomG k X.A) (hb : Binds X.K fd ps [])
    (out : ∀ e s', CX X.stack H s E e s' → X.xe e s') (I : Inv X pins σ H s) (r : Vals vs us) (h : sp vs H Q E) : wpAny (model X.prog X.w) X.A (call (.ref f) us) (EP X pins σ Q) X.xe s := by
  have n := (r.length).symm.trans (F.arity _ _ _ _ h)
  have b := hb s us I.kIn (by rw [List.append_nil, n])
  rw [List.append_nil] at b
  refine wpAny_call (codeAny_mono (F.go hr I.env0 b r h) ?_)
  rintro (e | fl) s' q
  · exact out e s' q
  · match fl, q with
    | .ret u, q => exact I.after q
/-- a def and its promise, by its name -/
structure Dn (P : Program) (w : World) (K : PySem.W.Frag) (mg : Str → Option Value) (base : Heap) (k : Nat) (x : Str) (ps : List Str) (sp : Sp) : Prop where
  ex : ∃ f fd, FnG P w K mg base CX0 k f fd ps sp ∧ PySem.W.keepIn K (.ref f) = true ∧ mg x = some (.ref f) ∧ Binds K fd ps []
/-- .. that may raise -/
structure Dx (P : Program) (w : World) (K : PySem.W.Frag) (mg : Str → Option Value) (base : Heap) (k : Nat) (x : Str) (ps : List Str) (sp : Sp) : Prop where
  ex : ∃ f fd, FnG P w K mg base (L2.CX P w) k f fd ps sp ∧ PySem.W.keepIn K (.ref f) = true ∧ mg x = some (.ref f) ∧ Binds K fd ps []
theorem Df.ok {P : Program} {w : World} {K : PySem.W.Frag} {mg : Str → Option Value} {base : Heap} {x : Str} {st : Stmt} (D : Df K mg x st ps)
    (h : ∀ f fd, Fun K x x st f fd → FnG P w K mg base CX0 k f fd ps sp) : Dn P w K mg base k x ps sp := by
  obtain ⟨f, fd, F, m, b⟩ := D.ex
  exact ⟨f, fd, h f fd F, F.kp, m, b⟩
theorem Df.okX {P : Program} {w : World} {K : PySem.W.Frag} {mg : Str → Option Value} {base : Heap} {x : Str} {st : Stmt} (D : Df K mg x st ps)
    (h : ∀ f fd, Fun K x x st f fd → FnG P w K mg base (L2.CX P w) k f fd ps sp) : Dx P w K mg base k x ps sp := by
  obtain ⟨f, fd, F, m, b⟩ := D.ex
  exact ⟨f, fd, h f fd F, F.kp, m, b⟩
variable {x : Str} {p pos : Pos} {e : Expr} {es : List Expr} {t : TA}
theorem pe_cD (D : Dn X.prog X.w X.K X.mg X.base k x ps sp) (hr : RoomG k X.A) (hg : Gl X x) (ha : PA X (e :: es) t) (hdb : (x == ("__debug__" : Str)) = false := by decide)
    (he : starEach (e :: es) X.env = (false, eval e X.env) :: starEach es X.env := by rfl) (hpl : (backTo pos (starEach es X.env)).any (·.1) = false := by rfl) : PE X (.Call (.Name x p) (e :: es) [] pos) (tCall sp [] E0 t) := by
  obtain ⟨f, fd, F, hk, hm, hb⟩ := D.ex
  refine ⟨fun pins s σ H Q I h => wpAny_Call_Name_kw (ld_glob I hg hm (PySem.W.callWith_K (h₀ := X.base) I.ok.mod.kin hk (thn (ha.run pos pins s σ H _ I h) fun us s1 ⟨vs, H1, I1, r, q⟩ => ⟨I1.kIn, ?_⟩) he hpl) hdb)⟩
  have q' : sp vs H1 Q E0 := by
    have z : sp (vs ++ []) H1 Q E0 := q
    rw [List.append_nil] at z
    exact z
  exact run_G F hr hb (fun _ _ z => z.elim) I1 r q'
theorem pe_cD0 (D : Dn X.prog X.w X.K X.mg X.base k x ps sp) (hr : RoomG k X.A) (hg : Gl X x) (hdb : (x == ("__debug__" : Str)) = false := by decide) : PE X (.Call (.Name x p) [] [] pos) (tCall sp [] E0 tNil) := by
  obtain ⟨f, fd, F, hk, hm, hb⟩ := D.ex
  refine ⟨fun pins s σ H Q I h => wpAny_Call_Name_kw (ld_glob I hg hm (PySem.W.callWith_K0 I.kIn hk (run_G (us := []) F hr hb (fun _ _ z => z.elim) I .nil h)) hdb)⟩
/-- a def with defaults: dvs fill up -/
structure Dfd (K : PySem.W.Frag) (mg : Str → Option Value) (x : Str) (st : Stmt) (ps : List Str) (dvs : List V) : Prop where
  ex : ∃ (f : Addr) (fd : FuncData) (ds : List Value), FunA K x x st f fd ∧ PySem.W.keepIn K (.ref f) = true ∧ mg x = some (.ref f) ∧ Binds K fd ps ds ∧ Vals dvs ds
theorem Dfd.of {K : PySem.W.Frag} {mg : Str → Option Value} {x : Str} {st : Stmt} {ps : List Str} {dvs : List V} {f T : Addr} {oc : Value} {od an : Option Addr} {osl : Array (Option Value)} {kV doc pm cdv ct : Value} {o : Obj} {its : List Value} {n m : Nat}
    (l : K.lookup f = some ⟨oc, od, .func (PySem.W.fnOf x x (defArgs st) (defBody st) (defScope st) (.ref T) kV doc pm an cdv ct), osl⟩) (c : PySem.W.codeIn K cdv x = true) (k : PySem.W.keepIn K (.ref f) = true) (mx : mg x = some (.ref f))
    (lT : K.lookup T = some o) (oT : o.data = .seq its.toArray m) (rT : Vals dvs its) (hn : n + dvs.length = ps.length)
    (h : ∀ (us : List Value), us.length = n → ∃ kk, bindArgs (PySem.W.fnOf x x (defArgs st) (defBody st) (defScope st) (.ref T) kV doc pm an cdv ct) ⟨us, []⟩ = seqItems? (.ref T) >>= kk ∧ kk (some its.toArray) = pure (ps.zip (us ++ its))) : Dfd K mg x st ps dvs := by
  refine ⟨f, _, its, ⟨⟨_, _, _, _, _, _, _, _, _, _, rfl, l, c⟩⟩, k, mx, fun s us X hlen => ?_, rT⟩
  have l1 := rT.length
  have l2 : us.length = n := by
    rw [List.length_append] at hlen
    omega
  obtain ⟨kk, e1, e2⟩ := h us l2
  refine BindsTo.of_looks fun M => ?_
  rw [e1]
  exact looks_items X lT oT (.of_pure e2)
/-- .. all parameters given -/
theorem Dfd.ofAll {K : PySem.W.Frag} {mg : Str → Option Value} {x : Str} {st : Stmt} {ps : List Str} {f T : Addr} {oc : Value} {od an : Option Addr} {osl : Array (Option Value)} {kV doc pm cdv ct : Value} {o : Obj} {its : List Value} {n m : Nat}
    (l : K.lookup f = some ⟨oc, od, .func (PySem.W.fnOf x x (defArgs st) (defBody st) (defScope st) (.ref T) kV doc pm an cdv ct), osl⟩) (c : PySem.W.codeIn K cdv x = true) (k : PySem.W.keepIn K (.ref f) = true) (mx : mg x = some (.ref f))
    (lT : K.lookup T = some o) (oT : o.data = .seq its.toArray m) (hn : n = ps.length)
    (h : ∀ (us : List Value), us.length = n → ∃ kk, bindArgs (PySem.W.fnOf x x (defArgs st) (defBody st) (defScope st) (.ref T) kV doc pm an cdv ct) ⟨us, []⟩ = seqItems? (.ref T) >>= kk ∧ kk (some its.toArray) = pure (ps.zip us)) : Dfd K mg x st ps [] := by
  refine ⟨f, _, [], ⟨⟨_, _, _, _, _, _, _, _, _, _, rfl, l, c⟩⟩, k, mx, fun s us X hlen => ?_, .nil⟩
  have l2 : us.length = n := by
    rw [List.append_nil] at hlen
    omega
  obtain ⟨kk, e1, e2⟩ := h us l2
  refine BindsTo.of_looks fun M => ?_
  rw [e1, List.append_nil]
  exact looks_items X lT oT (.of_pure e2)
/-- .. and its promise -/
structure DnD (P : Program) (w : World) (K : PySem.W.Frag) (mg : Str → Option Value) (base : Heap) (k : Nat) (x : Str) (ps : List Str) (dvs : List V) (sp : Sp) : Prop where
  ex : ∃ (f : Addr) (fd : FuncData) (ds : List Value), FnG P w K mg base CX0 k f fd ps sp ∧ PySem.W.keepIn K (.ref f) = true ∧ mg x = some (.ref f) ∧ Binds K fd ps ds ∧ Vals dvs ds
theorem Dfd.ok {P : Program} {w : World} {K : PySem.W.Frag} {mg : Str → Option Value} {base : Heap} {x : Str} {st : Stmt} {dvs : List V} (D : Dfd K mg x st ps dvs)
    (h : ∀ f fd, FunA K x x st f fd → FnG P w K mg base CX0 k f fd ps sp) : DnD P w K mg base k x ps dvs sp := by
  obtain ⟨f, fd, ds, F, kp, m, b, d⟩ := D.ex
  exact ⟨f, fd, ds, h f fd F, kp, m, b, d⟩
theorem run_Gd {pins : List (Addr × Obj)} {σ : L2.St} {H : Hp} {s : Shared} {Q : VK} {E : XK} {us ds : List Value} {vs dvs : List V} (F : FnG X.prog X.w X.K X.mg X.base CX k f fd ps sp) (hr : RoomG k X.A) (hb : Binds X.K fd ps ds) (hd : Vals dvs ds)
    (out : ∀ e s', CX X.stack H s E e s' → X.xe e s') (I : Inv X pins σ H s) (r : Vals vs us) (h : sp (vs ++ dvs) H Q E) : wpAny (model X.prog X.w) X.A (call (.ref f) us) (EP X pins σ Q) X.xe s := by
  have r2 : Vals (vs ++ dvs) (us ++ ds) := r.append hd
  have n : (us ++ ds).length = ps.length := by rw [← r2.length]; exact F.arity _ _ _ _ h
  refine wpAny_call (codeAny_mono (F.go hr I.env0 (hb s us I.kIn n) r2 h) ?_)
  rintro (e | fl) s' q
  · exact out e s' q
  · match fl, q with
    | .ret u, q => exact I.after q
theorem pe_cDd {dvs : List V} (D : DnD X.prog X.w X.K X.mg X.base k x ps dvs sp) (hr : RoomG k X.A) (hg : Gl X x) (ha : PA X (e :: es) t) (hdb : (x == ("__debug__" : Str)) = false := by decide)
    (he : starEach (e :: es) X.env = (false, eval e X.env) :: starEach es X.env := by rfl) (hpl : (backTo pos (starEach es X.env)).any (·.1) = false := by rfl) : PE X (.Call (.Name x p) (e :: es) [] pos) (tCall sp dvs E0 t) := by
  obtain ⟨f, fd, ds, F, hk, hm, hb, hd⟩ := D.ex
  refine ⟨fun pins s σ H Q I h => wpAny_Call_Name_kw (ld_glob I hg hm (PySem.W.callWith_K (h₀ := X.base) I.ok.mod.kin hk (thn (ha.run pos pins s σ H _ I h) fun us s1 ⟨vs, H1, I1, r, q⟩ => ⟨I1.kIn, ?_⟩) he hpl) hdb)⟩
  exact run_Gd F hr hb hd (fun _ _ z => z.elim) I1 r q
/-- a call within a try: what is raised is wished at the slots -/
theorem pe_cX {E : L2.St → XK} (D : Dx X.prog X.w X.K X.mg X.base k x ps sp) (hr : RoomG k X.A) (hg : Gl X x) (hx : ∀ σ, PassesAt (L2.CX X.prog X.w) X σ (E σ)) (ha : PA X (e :: es) t) (hdb : (x == ("__debug__" : Str)) = false := by decide)
    (he : starEach (e :: es) X.env = (false, eval e X.env) :: starEach es X.env := by rfl) (hpl : (backTo pos (starEach es X.env)).any (·.1) = false := by rfl) : PE X (.Call (.Name x p) (e :: es) [] pos) (tCallS sp E t) := by
  obtain ⟨f, fd, F, hk, hm, hb⟩ := D.ex
  exact ⟨fun pins s σ H Q I h => wpAny_Call_Name_kw (ld_glob I hg hm (PySem.W.callWith_K (h₀ := X.base) I.ok.mod.kin hk (thn (ha.run pos pins s σ H _ I h) fun us s1 ⟨vs, H1, I1, r, q⟩ =>
    ⟨I1.kIn, run_G F hr hb (fun e s' z => hx σ pins H1 s1 e s' I1 z) I1 r q⟩) he hpl) hdb)⟩
/-- repr of what is data -/
def rRepr (K : PySem.W.Frag) : List V → Hp → VK → Prop := fun xs H Q => ∃ (x : V) (d : PyData), xs = [x] ∧ Dp K H x d ∧ d.showable = true ∧ d.depth ≤ 60 ∧ d.shown.length ≤ sizeLine ∧ Q (.str d.shown) H
mutual
theorem dp_noDict {K : PySem.W.Frag} {H : Hp} : ∀ (d : PyData) (x : V), Dp K H x d → d.hasDict = false
  | .none, _, _ => rfl
  | .bool _, _, _ => rfl
  | .int _, _, _ => rfl
  | .str _, _, _ => rfl
  | .list ds, _, h => by
    cases h with
    | lst _ ha => simpa [PyData.hasDict] using dp_noDicts ds _ ha
  | .tuple ds, _, h => by
    cases h with
    | tup _ ha => simpa [PyData.hasDict] using dp_noDicts ds _ ha
  | .dict _, _, h => by cases h
theorem dp_noDicts {K : PySem.W.Frag} {H : Hp} : ∀ (ds : List PyData) (xs : List V), DpAll K H xs ds → PyData.hasDictAll ds = false
  | [], _, _ => by simp [PyData.hasDictAll]
  | d :: ds, _, h => by
    cases h with
    | cons a b => simp [PyData.hasDictAll, dp_noDict d _ a, dp_noDicts ds _ b]
end
theorem reprK {K : PySem.W.Frag} (hr : RoomG k X.A) (eK : X.K = K := by rfl) : CallR X (.builtin "repr") (rRepr K) := by
  cases eK
  intro pins s σ H xs us Q I r h
  obtain ⟨x, d, rfl, hd, hs, hdep, hz, q⟩ := h
  obtain ⟨u, rfl, rx⟩ := vals1 r
  obtain ⟨as, rd⟩ := Dp.reads I d x u hd rx
  have hu := hr.units
  have nd := dp_noDict d x hd
  cases hd with
  | non => cases rx; exact PySem.P.repr_of_none ⟨.str _, H, I.tok _, ⟨_, rfl⟩, q⟩
  | bl b => cases rx; exact PySem.P.repr_of_bool ⟨.str _, H, I.tok _, ⟨_, rfl⟩, q⟩
  | int i => obtain ⟨t, rfl⟩ := rx; exact PySem.P.repr_of_int (of_decide_eq_true (by simpa [PyData.showable] using hs)) ⟨.str _, H, I.tok _, ⟨_, rfl⟩, q⟩
  | str z => obtain ⟨t, rfl⟩ := rx; exact PySem.P.repr_of_str ⟨.str _, H, I.tok _, ⟨_, rfl⟩, q⟩ hz
  | lst hq ha =>
    cases rx
    refine repr_of_reads' rd hs (PyData.noDict_hsm nd) hr.idle (by omega) (fun _ _ z => z) (fun h' u tk hk => ⟨.str _, H, I.kept hk, ⟨_, rfl⟩, q⟩) hz
  | tup hq ha =>
    cases rx
    refine repr_of_reads' rd hs (PyData.noDict_hsm nd) hr.idle (by omega) (fun _ _ z => z) (fun h' u tk hk => ⟨.str _, H, I.kept hk, ⟨_, rfl⟩, q⟩) hz
end
end Toy
namespace Toy
open PySem PySem.Spec PyProof.Rows L2
/-- what was tracked stays, but for one object -/
def But (p : Addr) (H H' : Hp) : Prop := ∀ b o, b ≠ p → H b = some o → H' b = some o
theorem But.refl {p : Addr} {H : Hp} : But p H H := fun _ _ _ h => h
theorem But.trans {p : Addr} {H H1 H2 : Hp} (a : But p H H1) (b : But p H1 H2) : But p H H2 := fun c o n h => b c o n (a c o n h)
theorem But.free {p : Addr} {H H' : Hp} (e : But p H H') {l : Addr} (n : l ≠ p) (h : H' l = Option.none) : H l = Option.none := by
  cases q : H l with
  | none => rfl
  | some o =>
    rw [e l o n q] at h
    cases h
theorem same_but {p : Addr} {H H' : Hp} (a : Same H H') : But p H H' := fun c o _ h => a c o h
theorem But.upd {p : Addr} {H : Hp} {o : HO} : But p H (upd H p o) := fun b u n h => by rw [upd_ne n]; exact h
theorem same_new {H : Hp} {p : Addr} (h : H p = none) (o : HO) : Same H (upd H p o) := fun b u q => by rw [upd_ne (ne_of_none q h)]; exact q
theorem but_tup {p : Addr} {K : PySem.W.Frag} {H H' : Hp} {a : Addr} {xs ys : List V} (e : But p H H') (hp : H p = some (.lst ys)) (h : SqT K H a xs) : SqT K H' a xs := by
  rcases h with (h | ⟨o, h⟩) | h
  · exact .inl (.inl (e _ _ (ne_of h hp (by intro z; cases z)) h))
  · exact .inl (.inr ⟨o, e _ _ (ne_of h hp (by intro z; cases z)) h⟩)
  · exact .inr h
theorem same_tup {K : PySem.W.Frag} {H H' : Hp} {a : Addr} {xs : List V} (e : Same H H') (h : SqT K H a xs) : SqT K H' a xs := by
  rcases h with (h | ⟨o, h⟩) | h
  · exact .inl (.inl (e _ _ h))
  · exact .inl (.inr ⟨o, e _ _ h⟩)
  · exact .inr h
/-- the script stays -/
theorem but_seq {p : Addr} {K : PySem.W.Frag} {H H' : Hp} {a : Addr} {xs : List V} (e : But p H H') (n : a ≠ p) (h : SqL K H a xs) : SqL K H' a xs := by
  rcases h with (h | ⟨o, h⟩) | h
  · exact .inl (.inl (e _ _ n h))
  · exact .inl (.inr ⟨o, e _ _ n h⟩)
  · exact .inr h
theorem small {n : Nat} (h : n ≤ 1000) : n ≤ sizeLine := Nat.le_of_lt (small1000 h)
theorem log_lt {i : Int} {n : Nat} (h0 : 0 < n) (h : i.natAbs < 2 ^ n) : i.natAbs.log2 < n := PySem.Flt.log2_lt_of h0 h
theorem divp_small {i j : Int} (hj : 0 < j) (h : j < 2 ^ 8000) : CDivP i j := by
  refine ⟨hj, PyProof.noPylong_of_log2 ?_⟩
  exact Nat.lt_trans (log_lt (n := 8000) (by decide) (by omega)) (by decide)
end Toy
namespace Toy
open PySem PySem.Spec PyProof.Rows L2
theorem ifT {c : Bool} {A B : Prop} (hc : c = true) (h : A) : if c = true then A else B := by rw [if_pos hc]; exact h
theorem ifF {c : Bool} {A B : Prop} (hc : c = false) (h : B) : if c = true then A else B := by rw [hc]; exact iteF h
theorem pj {j : Int} (h : decide ((0 : Int) < j) = true := by decide) : 0 < j := of_decide_eq_true h
theorem sz {xs : List V} (h : Nat.ble xs.length 1000 = true := by rfl) : xs.length ≤ sizeLine := small (Nat.le_of_ble_eq_true h)
theorem but_same {p : Addr} {H H1 H2 : Hp} (n : H p = none) (a : Same H H1) (b : But p H1 H2) : Same H H2 := fun c o h => b c o (ne_of_none h n) (a c o h)
/-- two ways of a value meet -/
theorem ifE {ta tb : TE} {σ : L2.St} {H : Hp} {Q : VK} {b : Bool} (R : V → Hp → Prop) (h : ∀ v H', R v H' → Q v H') (h1 : b = true → ∀ Q' : VK, (∀ v H', R v H' → Q' v H') → ta σ H Q') (h2 : b = false → ∀ Q' : VK, (∀ v H', R v H' → Q' v H') → tb σ H Q') :
    if b = true then ta σ H Q else tb σ H Q := by
  cases b with
  | true => exact iteT (h1 rfl Q h)
  | false => exact iteF (h2 rfl Q h)
theorem mulx {i j : Int} (a b : Nat) (ha : i.natAbs < 2 ^ a) (hb : j.natAbs < 2 ^ b) (h : a + b ≤ 134217728 := by decide) : CMulX i j := mulx_ok ha hb h
end Toy
namespace Toy
open PySem PySem.Spec PyProof.Rows L2
theorem qi {Q : VK} {H : Hp} {a b : Int} (q : Q (.int a) H) (e : a = b) : Q (.int b) H := e ▸ q
end Toy
namespace Toy
open PySem PySem.Spec PyProof.Rows L2
/-- the written part by its letter -/
theorem kk {α : Sort _} {P : α → Prop} {F : PySem.W.Frag → α} {K0 K : PySem.W.Frag} (h : P (F K0)) (e : K0 = K := by rfl) : P (F K) := e ▸ h
def rLen (K : PySem.W.Frag) : List V → Hp → VK → Prop := fun xs H Q => ∃ p ys, xs = [.ref p] ∧ (SqL K H p ys ∨ SqT K H p ys) ∧ Q (.int ys.length) H
theorem lenK {X : Cx} {K : PySem.W.Frag} (e : X.K = K := by rfl) : CallR X (.builtin "len") (rLen K) := by cases e; exact call_len_seq
def rLstOf (K : PySem.W.Frag) : List V → Hp → VK → Prop := fun xs H Q => ∃ p ys, xs = [.ref p] ∧ (SqL K H p ys ∨ SqT K H p ys) ∧ ∀ l, H l = none → Q (.ref l) (upd H l (.lst ys))
theorem lstOfK {X : Cx} {K : PySem.W.Frag} (e : X.K = K := by rfl) : CallR X (.type "list") (rLstOf K) := by cases e; exact call_list_of
def rTupOf (K : PySem.W.Frag) : List V → Hp → VK → Prop := fun xs H Q => ∃ p ys, xs = [.ref p] ∧ ((SqL K H p ys ∧ ∀ l, H l = none → Q (.ref l) (upd H l (.tup ys))) ∨ (SqT K H p ys ∧ Q (.ref p) H))
theorem tupOfK {X : Cx} {K : PySem.W.Frag} (e : X.K = K := by rfl) : CallR X (.type "tuple") (rTupOf K) := by cases e; exact call_tuple_of
theorem dec_ne {α : Type} [DecidableEq α] {a b : α} (h : a = b) : (!decide (a = b)) = false := by rw [decide_eq_true h] <;> rfl
end Toy
namespace Toy
open PySem PySem.Spec PyProof.Rows L2
/-- a tuple of the written part; a tuple that never changes -/
def KTup (K : PySem.W.Frag) (a : Addr) (xs : List V) : Prop := ∃ (o : Obj) (its : Array Value) (n : Nat), K.lookup a = some o ∧ o.cls = .type "tuple" ∧ o.data = .seq its n ∧ its.size ≤ sizeLine ∧ Vals xs its.toList
def TupAt (K : PySem.W.Frag) (H : Hp) (a : Addr) (xs : List V) : Prop := H a = some (.tup xs) ∨ KTup K a xs
theorem TupAt.sq {K : PySem.W.Frag} {H : Hp} {a : Addr} {xs : List V} (h : TupAt K H a xs) : SqT K H a xs := by
  rcases h with h | h
  · exact SqT.of h
  · exact .inr h
theorem TupAt.ty {K : PySem.W.Frag} {H : Hp} {a : Addr} {xs : List V} (h : TupAt K H a xs) : TyX K H (.ref a) (.type "tuple") := by
  rcases h with h | ⟨o, its, n, h1, h2, _⟩
  · exact .base (.tup h)
  · exact .kTuple h1 h2
theorem TupAt.same {K : PySem.W.Frag} {H H' : Hp} {a : Addr} {xs : List V} (e : Same H H') (h : TupAt K H a xs) : TupAt K H' a xs := h.imp (e _ _) id
theorem TupAt.but {K : PySem.W.Frag} {H H' : Hp} {a p : Addr} {xs ys : List V} (e : But p H H') (hp : H p = some (.lst ys)) (h : TupAt K H a xs) : TupAt K H' a xs := h.imp (fun h => e _ _ (ne_of h hp (by intro z; cases z)) h) id
end Toy
namespace Toy
open PySem PySem.Spec PyProof.Rows L2
theorem ints_dp {K : PySem.W.Frag} {H : Hp} : ∀ ns : List Int, DpAll K H (ns.map V.int) (ns.map PyData.int)
  | [] => .nil
  | n :: r => .cons (.int n) (ints_dp r)
theorem ints_sh (ns : List Int) : SeqAt.shaped (.list (ns.map PyData.int)) = true := PySem.W.ke_shaped_ints ns
theorem ints_refl (ns : List Int) : PyData.eqv (.list (ns.map PyData.int)) (.list (ns.map PyData.int)) = true := SeqAt.eqv_refl _ (SeqAt.canLay_of_shaped (ints_sh ns))
theorem lst_dp {K : PySem.W.Frag} {H : Hp} {a : Addr} {ns : List Int} (h : SqL K H a (ns.map V.int)) : Dp K H (.ref a) (.list (ns.map PyData.int)) := .lst h (ints_dp ns)
theorem tupI_dp {K : PySem.W.Frag} {H : Hp} {a : Addr} {ns : List Int} (h : SqT K H a (ns.map V.int)) : Dp K H (.ref a) (.tuple (ns.map PyData.int)) := .tup h (ints_dp ns)
theorem tupI_sh (ns : List Int) : SeqAt.shaped (.tuple (ns.map PyData.int)) = true := ints_sh ns
theorem tupI_refl (ns : List Int) : PyData.eqv (.tuple (ns.map PyData.int)) (.tuple (ns.map PyData.int)) = true := SeqAt.eqv_refl _ (SeqAt.canLay_of_shaped (tupI_sh ns))
theorem cut_map (us : List Int) (lo hi : Option Int) : ∃ ws : List Int, cutV (us.map V.int) lo hi = ws.map V.int ∧ ws.length ≤ us.length ∧ ∀ x ∈ ws, x ∈ us := by
  refine ⟨(us.drop (HT.sIx (us.map V.int).length 0 lo)).take (HT.sIx (us.map V.int).length (us.map V.int).length hi - HT.sIx (us.map V.int).length 0 lo), ?_, ?_, fun x hx => List.mem_of_mem_drop (List.mem_of_mem_take hx)⟩
  · unfold cutV; rw [List.map_take, List.map_drop]
  · rw [List.length_take, List.length_drop]; omega
theorem at_map {us : List Int} {i : Nat} {y : V} (h : (us.map V.int)[i]? = some y) : ∃ x : Int, y = .int x ∧ us[i]? = some x := by
  rw [List.getElem?_map] at h
  cases e : us[i]? with
  | none => rw [e] at h; cases h
  | some x => rw [e] at h; exact ⟨x, (Option.some.inj h).symm, rfl⟩
end Toy
namespace Toy
open PySem PySem.Spec PyProof.Rows L2
/-- the heap in which the script alone stands, unless the text's own part holds it -/
def scriptH (K : PySem.W.Frag) (a : Addr) (o : Obj) (ns : List Int) : Hp := fun c => if (K.lookup a).isNone = true ∧ c = a then some (.frz o (.lst (ns.map V.int))) else none
theorem scriptH_none {K : PySem.W.Frag} {a b : Addr} {o : Obj} {ns : List Int} : scriptH K a o ns b = none ∨ (b = a ∧ K.lookup a = none ∧ scriptH K a o ns b = some (.frz o (.lst (ns.map V.int)))) := by
  unfold scriptH
  by_cases c : (K.lookup a).isNone = true ∧ b = a
  · exact .inr ⟨c.2, Option.isNone_iff_eq_none.mp c.1, if_pos c⟩
  · exact .inl (if_neg c)
theorem law_G {P : Program} {w : World} {K : PySem.W.Frag} {mg mb : Str → Option Value} {k : Nat} {fa a : Addr} {fd : FuncData} {x : Str} {sp : Sp} {s : Shared} {vs : List Value} {ns : List Int}
    (KX : K.In s.heap) (hns : s.heap.Ns mainGlobals mg) (hb : s.heap.Ns builtinsNs mb) (hbb : ∀ x : Str, x ≠ "__name__" → mb x = bootBuiltins x) (hlim : s.heap.NoLimit) (hg : s.gens = #[])
    (ha : s.heap.get? a = some { cls := .type "list", data := .seq vs.toArray }) (hi : IntsAre vs ns) (hl : ns.length ≤ sizeLine) (hr : Room k PySem.callerA)
    (F : ∀ base : Heap, K.In base → base.Ns mainGlobals mg → FnG P w K mg base CX0 k fa fd [x] sp) (hbind : ∀ (s : Shared) (u : Value), BindsTo s fd ⟨[u], []⟩ [(x, u)])
    (hsp : ∀ H : Hp, SqL K H a (ns.map V.int) → sp [.ref a] H (fun v _ => v = .bl true) fun _ _ _ => False) :
    codeAny (model P w) PySem.callerA (.call (.ref fa) ⟨[.ref a], []⟩) (fun r s' => r = .ok (.ret (.bool true)) ∧ OldK s.heap s'.heap ∧ s'.os = s.os ∧ AllBare s'.gens) s := by
  let H : Hp := scriptH K a { cls := .type "list", data := .seq vs.toArray } ns
  have hH : ∀ b, H b = none ∨ (b = a ∧ K.lookup a = none ∧ H b = some (.frz { cls := .type "list", data := .seq vs.toArray } (.lst (ns.map V.int)))) := fun b => scriptH_none
  have rv := vals_ints hi
  have hok : HOk P w H s.heap := by
    intro b u e
    rcases hH b with z | ⟨rfl, _, z⟩
    · rw [z] at e; cases e
    · rw [z] at e
      cases e
      exact ⟨ha, by rw [List.length_map]; exact hl, vs, _, rv, ha⟩
  have hS : SqL K H a (ns.map V.int) := by
    cases q : K.lookup a with
    | none => exact .inl (.inr ⟨_, show scriptH K a _ ns a = _ from if_pos ⟨by rw [q] <;> rfl, rfl⟩⟩)
    | some o =>
      have e := KX a o q
      rw [ha] at e
      cases e
      exact .inr ⟨_, vs.toArray, _, q, rfl, rfl, rfl, by rw [List.size_toArray, hi.length]; exact hl, by simpa using rv⟩
  -- what is no list is not the script
  have notA : ∀ {b : Addr} {o : Obj} {es : Array DictEntry} {ep : Nat}, s.heap.get? b = some o → o.data = .dict es ep → H b = none := by
    intro b o es ep e d
    rcases hH b with z | ⟨rfl, _, _⟩
    · exact z
    · rw [ha] at e
      cases e
      cases (show Data.seq vs.toArray _ = Data.dict es ep from d)
  have ns' : ∀ {b : Addr} {m : Str → Option Value}, s.heap.Ns b m → (hidT s.heap H).Ns b m := by
    rintro b m ⟨o, es, ep, e, d, r⟩
    exact ⟨o, es, ep, hidT_get e (notA e d), d, r⟩
  have kin' : K.In (hidT s.heap H) := by
    intro b o e
    refine hidT_get (KX b o e) ?_
    rcases hH b with z | ⟨rfl, q, _⟩
    · exact z
    · rw [q] at e; cases e
  have md : Mod K mg (hidT s.heap H) := ⟨kin', ns' hns, ⟨mb, ns' hb, hbb⟩, hlim.imp fun _ z => ⟨ns' z.1, z.2⟩⟩
  have e0 : Env0 P w K mg (hidT s.heap H) PySem.callerA [] s H := ⟨rfl, md, fun _ _ z => of_hidT z, Nat.le_of_eq (hidT_size _ _), trivial, (by intro b z; cases z), hok, .of_eq hg⟩
  refine codeAny_mono ((F _ kin' (ns' hns)).go (us := [.ref a]) (vs := [.ref a]) ⟨hr, rfl⟩ e0 (hbind s (.ref a)) (.cons rfl .nil) (hsp H hS)) ?_
  rintro (e | fl) s' q
  · exact q.elim
  match fl, q with
  | .ret u, ⟨v, H', os, bare, un, ok', r', q⟩ =>
    have q' : v = .bl true := q
    subst q'
    obtain rfl : u = Value.bool true := r'
    refine ⟨rfl, OldK.of_keep fun b o e => ?_, os, bare⟩
    rcases hH b with z | ⟨_, _, z⟩
    · exact un.keep b o e z (by intro y; cases y) (by intro y; cases y)
    · have z1 := (hok b _ z).1
      have z2 := (ok' b _ (un.frzs b _ _ z)).1
      rw [e] at z1
      cases z1
      exact z2
theorem walk_G {l : PySem.W.OpenLaw} {n k : Nat} {q : Program} {loose : List Str} {XP : (Str → Option Value) → Heap → Prop} {YP : World → Heap → Prop} {d : DefRec} {K : Params → PySem.W.Frag} {sp : PySem.W.Frag → Sp} {x : Str}
    (hn : l.most = some n) (hn2 : n ≤ sizeLine) (hdf : d.params.defaults = []) (hr : Room k PySem.callerA) (hY : ∀ (w : World) (h : Heap), YP w h → (K w.params).In h)
    (F : ∀ (w : World) (mg : Str → Option Value) (fa : Addr) (h : Heap), (K w.params).In h → h.Ns mainGlobals mg → mg d.name = some (.ref fa) →
      ∃ fd : FuncData, (∀ (s : Shared) (u : Value), BindsTo s fd ⟨[u], []⟩ [(x, u)]) ∧ ∀ base : Heap, (K w.params).In base → base.Ns mainGlobals mg → FnG l.prog w (K w.params) mg base CX0 k fa fd [x] (sp (K w.params)))
    (hsp : ∀ (K : PySem.W.Frag) (H : Hp) (a : Addr) (ns : List Int), ns.length ≤ n → SqL K H a (ns.map V.int) → sp K [.ref a] H (fun v _ => v = .bl true) fun _ _ _ => False) :
    PySem.W.WalkO q loose XP YP l.row.toRowW d [] (fun f vs => PySem.call f vs) :=
  Att.attach_call hn hdf fun w s0 s1 mg mb fa o pm cd doc a vs ns G Y ho hd hcd hmg hobj hints hlen hg => by
    have KX := hY w _ Y
    obtain ⟨fd, hbd, hF⟩ := F w mg fa _ KX G.T.g hmg
    exact law_G KX G.T.g G.T.b G.T.builtins G.T.nolimit hg hobj hints (Nat.le_trans hlen hn2) hr hF hbd fun H hS => hsp _ H a ns hlen hS
end Toy
namespace Toy
open PySem PySem.Spec PyProof.Rows L2
/-! ### how long a shown datum is -/
mutual
def cst : PyData → Nat
  | .none => 5
  | .bool _ => 5
  | .int _ => 1921
  | .str x => (reprText x).length
  | .list xs => csts xs + 4
  | .tuple xs => csts xs + 4
  | .dict _ => 0
def csts : List PyData → Nat
  | [] => 0
  | x :: xs => cst x + 4 + csts xs
end
theorem tupT_len (ts : List Str) : (tupleText ts).length ≤ piled ts + 4 := by
  unfold tupleText
  rw [strLen_append, strLen_append]
  have e1 : ((("(" : String) : Str)).length = 1 := rfl
  have e3 : (((if ts.length == 1 then ",)" else ")" : String) : Str)).length ≤ 2 := by split <;> decide +kernel
  by_cases h : ts = []
  · subst h; decide +kernel
  · have := join_length_add ts h; omega
theorem txtFrom_len : ∀ (ts : List Str) (k : Nat) (acc : Str), (textFrom k acc ts).length ≤ acc.length + piled ts
  | [], k, acc => Nat.le_add_right _ _
  | t :: r, k, acc => by
    have h := txtFrom_len r (k + 1) (acc ++ (if k > 0 then ", " else "" : String) ++ t)
    have e : (acc ++ (if k > 0 then ", " else "" : String) ++ t).length = acc.length + (if k > 0 then 2 else 0) + t.length := by
      rw [strLen_append, strLen_append]
      split <;> rfl
    rw [e] at h
    rw [piled_cons]
    have h2 : (textFrom k acc (t :: r)).length = (textFrom (k + 1) (acc ++ (if k > 0 then ", " else "" : String) ++ t) r).length := rfl
    rw [h2]
    have e2 : (if k > 0 then 2 else 0) ≤ 2 := by split <;> omega
    omega
theorem lstT_len (ts : List Str) : (listText ts).length ≤ piled ts + 4 := by
  unfold listText
  rw [strLen_append]
  have h := txtFrom_len ts 0 "["
  have e1 : ((("[" : String) : Str)).length = 1 := rfl
  have e2 : ((("]" : String) : Str)).length = 1 := rfl
  omega
mutual
theorem shown_le : ∀ d : PyData, d.showable = true → d.hasDict = false → d.shown.length ≤ cst d
  | .none, _, _ => by show (("None" : String) : Str).length ≤ 5; decide +kernel
  | .bool b, _, _ => by cases b <;> (show _ ≤ 5; decide +kernel)
  | .int i, h, _ => PyProof.Rows.int_text_len_1921 (of_decide_eq_true (by simpa [PyData.showable] using h))
  | .str x, _, _ => Nat.le_refl _
  | .list ds, h, g => by
    have h1 := showns_le ds (by simpa [PyData.showable] using h) (by simpa [PyData.hasDict] using g)
    have h2 := lstT_len (PyData.shownAll ds)
    show (listText (PyData.shownAll ds)).length ≤ csts ds + 4
    omega
  | .tuple ds, h, g => by
    have h1 := showns_le ds (by simpa [PyData.showable] using h) (by simpa [PyData.hasDict] using g)
    have h2 := tupT_len (PyData.shownAll ds)
    show (tupleText (PyData.shownAll ds)).length ≤ csts ds + 4
    omega
  | .dict _, _, g => by simp [PyData.hasDict] at g
theorem showns_le : ∀ ds : List PyData, PyData.showableAll ds = true → PyData.hasDictAll ds = false → piled (PyData.shownAll ds) ≤ csts ds
  | [], _, _ => Nat.le_refl _
  | d :: ds, h, g => by
    have h1 := shown_le d (by simp [PyData.showableAll] at h; exact h.1) (by simp [PyData.hasDictAll] at g; exact g.1)
    have h2 := showns_le ds (by simp [PyData.showableAll] at h; exact h.2) (by simp [PyData.hasDictAll] at g; exact g.2)
    show piled (d.shown :: PyData.shownAll ds) ≤ _
    rw [piled_cons]
    show _ ≤ cst d + 4 + csts ds
    omega
end
theorem shown_sz {d : PyData} (h : d.showable = true) (g : d.hasDict = false) (c : cst d ≤ 10000000) : d.shown.length ≤ sizeLine :=
  Nat.le_trans (shown_le d h g) (Nat.le_trans c (by decide))
end Toy
namespace Toy
open PySem PySem.Spec PyProof.Rows L2
/-- a list of ints grown by a part of another one -/
theorem ext_cut {L z : Addr} {ws es : List Int} {lo hi : Option Int} {H : Hp} {R : VK} (hL : H L = some (.lst (ws.map V.int))) (hz : H z = some (.lst (cutV (es.map V.int) lo hi))) (hs : ws.length + es.length ≤ 1000)
    (q : ∀ us : List Int, us.length ≤ es.length → (∀ x ∈ us, x ∈ es) → R .non (upd H L (.lst ((ws ++ us).map V.int)))) : rExtend (.ref L) [.ref z] H R := by
  obtain ⟨us, e, h1, h2⟩ := cut_map es lo hi
  rw [e] at hz
  refine ⟨L, z, _, _, rfl, rfl, hL, hz, small (by rw [List.length_map, List.length_map]; omega), ?_⟩
  have := q us h1 h2
  rw [List.map_append] at this
  exact this
theorem rep_len {n : Nat} : ((List.replicate n true).map V.bl).length = n := by rw [List.length_map, List.length_replicate]
theorem rep_snoc {n : Nat} : (List.replicate n true).map V.bl ++ [V.bl true] = (List.replicate (n + 1) true).map V.bl := by rw [List.replicate_succ', List.map_append] <;> rfl
theorem rep_all (n : Nat) : (List.replicate n true).all id = true := by rw [List.all_eq_true]; intro x hx; rw [List.mem_replicate] at hx; exact hx.2
theorem ixn {n j : Nat} (hj : j < n) : ixN n (j : Int) = some j := by
  unfold ixN
  rw [if_pos (by omega), if_pos (by omega)]
  exact congrArg some (Int.toNat_natCast j)
theorem dec_self (a : V) : decide (a = a) = true := decide_eq_true rfl
end Toy
namespace Toy
open PySem PySem.Spec PyProof.Rows L2
/-- a comprehension within a comprehension -/
theorem relabel_kept {env : Env} : ∀ {names : List (Str × NameKind)} {x : Str}, names.lookup x = some .cell ∨ names.lookup x = some .free →
    (names.map fun (n, k) => if (k == NameKind.free && env.scope.kind == .function && env.kindOf n == some .cell) then (n, NameKind.cell) else (n, k)).lookup x = some .cell ∨
    (names.map fun (n, k) => if (k == NameKind.free && env.scope.kind == .function && env.kindOf n == some .cell) then (n, NameKind.cell) else (n, k)).lookup x = some .free
  | [], _, h => by simp at h
  | (n, k) :: r, x, h => by
    have ih := @relabel_kept env r x
    show List.lookup x ((if (k == NameKind.free && env.scope.kind == .function && env.kindOf n == some .cell) = true then (n, NameKind.cell) else (n, k)) :: _) = _ ∨ List.lookup x ((if (k == NameKind.free && env.scope.kind == .function && env.kindOf n == some .cell) = true then (n, NameKind.cell) else (n, k)) :: _) = _
    cases hx : x == n with
    | true =>
      simp only [List.lookup_cons, hx] at h
      by_cases hc : (k == NameKind.free && env.scope.kind == .function && env.kindOf n == some .cell) = true
      · rw [if_pos hc]; exact .inl (by simp [List.lookup_cons, hx])
      · rw [if_neg hc]; simp only [List.lookup_cons, hx]; exact h
    | false =>
      simp only [List.lookup_cons, hx] at h
      by_cases hc : (k == NameKind.free && env.scope.kind == .function && env.kindOf n == some .cell) = true
      · rw [if_pos hc]; simp only [List.lookup_cons, hx]; exact ih h
      · rw [if_neg hc]; simp only [List.lookup_cons, hx]; exact ih h
theorem blkOk_nest {X : Cx} {s : Shared} {H : Hp} {scope1 scope : Scope} {cl : List (Str × Addr)} {C : Addr} {env : Env} {fp : List Addr} {own : List (Str × Nat)} {N : List Str} (hN : X.N = N) (h : blkC N scope1 scope own = true) :
    BlkOk (X.blk s H scope1 (compEnvC scope1 cl C env) fp).N (X.blk s H scope1 (compEnvC scope1 cl C env) fp).env.scope scope own := by
  subst hN
  obtain ⟨h1, h2, h3, h4, h5⟩ := blkOk_by h
  exact ⟨h1, h2, h3, fun y hy e => relabel_kept (h4 y hy e), h5⟩
end Toy
namespace Toy
open PySem L2
def top (i : Nat) : Stmt := PySem.Challenge.pw_joinedasks_k84_toggles_told.main.body.getD i (.Pass ⟨0, 0, 0, 0⟩)
abbrev s_is_whole : Stmt := top 4
theorem sc_is_whole : FnScope ["thing"] ["thing"] (defScope s_is_whole) := ⟨rfl, rfl, rfl, by decide +kernel, rfl, by decide +kernel, by decide +kernel⟩
abbrev s_is_within : Stmt := top 5
theorem sc_is_within : FnScope ["thing", "least", "most"] ["thing", "least", "most"] (defScope s_is_within) := ⟨rfl, rfl, rfl, by decide +kernel, rfl, by decide +kernel, by decide +kernel⟩
abbrev s_want_net : Stmt := top 6
theorem sc_want_net : FnScope ["k", "deepest"] ["k", "deepest"] (defScope s_want_net) := ⟨rfl, rfl, rfl, by decide +kernel, rfl, by decide +kernel, by decide +kernel⟩
abbrev s_merged : Stmt := top 9
theorem sc_merged : FnScope ["one", "other", "first", "upper", "second", "lower", "last", "row", "pair"] ["one", "other"] (defScope s_merged) := ⟨rfl, rfl, rfl, by decide +kernel, rfl, by decide +kernel, by decide +kernel⟩
abbrev s_counted_lines : Stmt := top 10
theorem sc_counted_lines : FnScope ["lines", "half", "first", "upper", "second", "lower", "last", "row"] ["lines"] (defScope s_counted_lines) := ⟨rfl, rfl, rfl, by decide +kernel, rfl, by decide +kernel, by decide +kernel⟩
abbrev s_counting_net : Stmt := top 11
theorem sc_counting_net : FnScope ["k"] ["k"] (defScope s_counting_net) := ⟨rfl, rfl, rfl, by decide +kernel, rfl, by decide +kernel, by decide +kernel⟩
abbrev s_toggles : Stmt := top 12
theorem sc_toggles : FnScope ["k"] ["k"] (defScope s_toggles) := ⟨rfl, rfl, rfl, by decide +kernel, rfl, by decide +kernel, by decide +kernel⟩
abbrev s_counted : Stmt := top 13
theorem sc_counted : FnScope ["k"] ["k"] (defScope s_counted) := ⟨rfl, rfl, rfl, by decide +kernel, rfl, by decide +kernel, by decide +kernel⟩
abbrev s__law_cell : Stmt := top 15
theorem sc__law_cell : FnScope ["_law_script", "_law_k"] ["_law_script", "_law_k"] (defScope s__law_cell) := ⟨rfl, rfl, rfl, by decide +kernel, rfl, by decide +kernel, by decide +kernel⟩
abbrev s__law_pot : Stmt := top 16
theorem sc__law_pot : FnScope ["_law_script", "_law_k", "_law_cell_here", "_law_mixed"] ["_law_script", "_law_k"] (defScope s__law_pot) := ⟨rfl, rfl, rfl, by decide +kernel, rfl, by decide +kernel, by decide +kernel⟩
abbrev s__law_draw : Stmt := top 17
theorem sc__law_draw : FnScope ["_law_pot_here", "_law_many", "_law_digit"] ["_law_pot_here", "_law_many"] (defScope s__law_draw) := ⟨rfl, rfl, rfl, by decide +kernel, rfl, by decide +kernel, by decide +kernel⟩
abbrev s__law_merged : Stmt := top 18
theorem sc__law_merged : FnScope ["_law_one", "_law_other", "_law_many", "_law_row", "_law_place", "_law_evens", "_law_odds", "_law_first", "_law_upper", "_law_second", "_law_lower", "_law_last"] ["_law_one", "_law_other"] (defScope s__law_merged) := ⟨rfl, rfl, rfl, by decide +kernel, rfl, by decide +kernel, by decide +kernel⟩
abbrev s__law_counted : Stmt := top 19
theorem sc__law_counted : FnScope ["_law_begin", "_law_many", "_law_first", "_law_upper", "_law_second", "_law_lower", "_law_last", "_law_row"] ["_law_begin", "_law_many"] (defScope s__law_counted) := ⟨rfl, rfl, rfl, by decide +kernel, rfl, by decide +kernel, by decide +kernel⟩
abbrev s__law_passed : Stmt := top 20
theorem sc__law_passed : FnScope ["_law_pairs", "_law_line", "_law_which", "_law_found", "_law_pair"] ["_law_pairs", "_law_line", "_law_which"] (defScope s__law_passed) := ⟨rfl, rfl, rfl, by decide +kernel, rfl, by decide +kernel, by decide +kernel⟩
abbrev s_law : Stmt := top 21
theorem sc_law : FnScope ["_law_script", "_law_k", "_law_pot_here", "_law_depth", "_law_line", "_law_pairs", "_law_row", "_law_due", "_law_lines", "_law_one", "_law_other", "_law_which"] ["_law_script"] (defScope s_law) := ⟨rfl, rfl, rfl, by decide +kernel, rfl, by decide +kernel, by decide +kernel⟩
structure Bl (K : PySem.W.Frag) (mg : Str → Option Value) : Prop where
  any_ : mg "any" = none
  bool_ : mg "bool" = none
  divmod_ : mg "divmod" = none
  int_ : mg "int" = none
  isinstance_ : mg "isinstance" = none
  len_ : mg "len" = none
  list_ : mg "list" = none
  max_ : mg "max" = none
  min_ : mg "min" = none
  range_ : mg "range" = none
  sorted_ : mg "sorted" = none
  tuple_ : mg "tuple" = none
  zip_ : mg "zip" = none
  DEEPEST_ : ∃ t, mg "DEEPEST" = some (.int 3 t)

end Toy
/-! ### enumerate of a tuple -/
namespace PySem
open Sem (wp)
open AutoSeq1 (wpAny_loadPart')
theorem meets_enumerate_newTu (l : Addr) (items : Array Value) (n : Nat) (dct : Option Addr) (sl : Array (Option Value)) :
    Meets (Builtin.«enumerate.__new__» ⟨[.type "enumerate", .ref l], []⟩) (fun _ R s => s.heap.get? l = some { cls := .type "tuple", dict := dct, data := .seq items n, slots := sl } ∧
      R (.ok (.ret (.ref (s.heap.push { cls := .type "tuple_iterator", data := .fields #[.ref l, .int 0 0] }).objs.size)))
        { s with heap := (s.heap.push { cls := .type "tuple_iterator", data := .fields #[.ref l, .int 0 0] }).push { cls := .type "enumerate", data := .fields #[.none, .bool false, .ref s.heap.objs.size, rawInt 0, .none, .none] } }) :=
  .of_wp fun prog w A R s h => by
    obtain ⟨hp, g, d, tk, os⟩ := s; obtain ⟨hl, h⟩ := h
    have hsub := sub_enumerate
    have hL : Heap.IsTuple (Shared.heap ⟨hp, g, d, tk, os⟩) l items := ⟨_, hl, rfl, n, rfl⟩
    wp_walk using wpAny_loadPart' hl
    refine wpAny_stack_any fun st => wpAny_pure ?_
    split
    · rename_i c _ _ _ _ _
      cases (c == Value.type "enumerate")
      · wp_walk using wpAny_loadPart' hl, wpAny_pyIter_tuple hL
        exact ⟨_, rfl, h⟩
      · wp_walk using wpAny_loadPart' hl, wpAny_pyIter_tuple hL
        exact ⟨_, rfl, h⟩
    · wp_walk using wpAny_loadPart' hl, wpAny_pyIter_tuple hL
      exact ⟨_, rfl, h⟩
theorem call_enumerate_tup {prog : Program} {w : World} {A : Around} {E : Value → Shared → Prop} {s : Shared} {l : Addr} {items : Array Value} {Q : Value → Shared → Prop} (hL : s.heap.IsTuple l items)
    (h : ∀ h', IsEnum h' (s.heap.objs.size + 1) s.heap.objs.size 0 .none → h'.IsTupleIter s.heap.objs.size l 0 → h'.objs.size = s.heap.objs.size + 2 →
      (∀ b o, s.heap.get? b = some o → h'.get? b = some o) → Q (.ref (s.heap.objs.size + 1)) { s with heap := h' }) :
    wpAny (model prog w) A (call (.type "enumerate") [.ref l]) Q E s := by
  obtain ⟨⟨c, dct, dt, sl⟩, hl, hc, n, hd⟩ := hL
  replace hc : c = .type "tuple" := hc
  replace hd : dt = .seq items n := hd
  subst hc hd
  refine callType_new F.called_enumerate (by decide) (F.typeCall_enumerate_1 _) (F.newCall_enumerate_1 _) (fun obj => F.args_object_init_2 obj _) F.entry_enumerate_new
    (meets_enumerate_newTu l items n dct sl) ⟨hl, ?_⟩
  have hz : (s.heap.push { cls := .type "tuple_iterator", data := .fields #[.ref l, .int 0 0] }).objs.size = s.heap.objs.size + 1 := Heap.size_push ..
  show _ ∧ _
  rw [hz]
  have he : IsEnum ((s.heap.push { cls := .type "tuple_iterator", data := .fields #[.ref l, .int 0 0] }).push
      { cls := .type "enumerate", data := .fields #[.none, .bool false, .ref s.heap.objs.size, rawInt 0, .none, .none] }) (s.heap.objs.size + 1) s.heap.objs.size 0 .none := by
    have := Heap.get?_push_size (s.heap.push { cls := .type "tuple_iterator", data := .fields #[.ref l, .int 0 0] })
      (o := { cls := .type "enumerate", data := .fields #[.none, .bool false, .ref s.heap.objs.size, rawInt 0, .none, .none] }) rfl
    rw [hz] at this; exact this
  refine ⟨⟨_, he, rfl⟩, h _ he ⟨_, Heap.get?_push_of_some _ (Heap.get?_push_size _ rfl), rfl, rfl⟩ (by rw [Heap.size_push, hz]) fun b o x => Heap.get?_push_of_some _ (Heap.get?_push_of_some _ x)⟩
end PySem
namespace Toy
open PySem PySem.Spec PyProof.Rows L2
theorem tup_is {h : Heap} {a : Addr} {its : Array Value} (p : IsTup h a its) : h.IsTuple a its := p
/-- the tuple at a as it stands at each turn, each item in a new pair -/
def IteT (K : PySem.W.Frag) (a : Addr) : It :=
  ⟨fun i H => ∃ (xs : List V) (x : V), SqT K H a xs ∧ xs[i]? = some x, fun i H v H' => ∃ T x, v = .ref T ∧ H T = none ∧ H' = upd H T (.tup [.int (i : Nat), x]) ∧ ∀ xs, SqT K H a xs → xs[i]? = some x, fun i H => ∃ xs : List V, SqT K H a xs ∧ xs.length = i⟩
theorem turn_enumTu {P : Program} {w : World} {K : PySem.W.Frag} {elts : List Expr} {kk : Nat} {tpos : Pos} (a e it : Addr) (hai : a ≠ it) :
    Turn P w K (.Tuple elts kk tpos) (IteT K a) [e, it] e (fun i h => (∃ old, IsEnum h e it ((i : Nat) : Int) old) ∧ h.IsTupleIter it a i ∧ e ≠ it ∧ e ≠ a) where
  mem := by simp
  obj := fun i h st b hb => by
    obtain ⟨⟨old, he⟩, ⟨o, ho, hc, hd⟩, _⟩ := st
    have e' : b = e ∨ b = it := by simpa using hb
    rcases e' with z | z
    · rw [z]; exact ⟨_, he, fun v q => nomatch q⟩
    · rw [z]; exact ⟨o, ho, fun v q => by rw [hd] at q; cases q⟩
  keep := fun i h h' st k => let ⟨⟨old, he⟩, hi, hne⟩ := st; ⟨⟨old, k e (by simp) _ he⟩, hi.at fun o q => k it (by simp) o q, hne⟩
  item := by
    intro X hP hw hK hc i pins s σ H E I hf st hg
    subst hP hw hK
    obtain ⟨⟨old, he⟩, hit, hne, hea⟩ := st
    obtain ⟨xs, x, hq, hx⟩ := hg
    obtain ⟨its, rv, p, hz⟩ := I.tuple hq
    obtain ⟨u, hu, ru⟩ := rv.get hx
    have hel : e < s.heap.objs.size := Heap.lt_size he
    have hil : it < s.heap.objs.size := by obtain ⟨_, q, _⟩ := hit; exact Heap.lt_size q
    refine wpAny_pyNext_enum_itemD (Draws.tuple (show X.A.in1.handled = none from I.ok.hd hc) it a hai its.toArray) he ⟨hit, tup_is p⟩ (by have h1 := rv.length; have h2 := (List.getElem?_eq_some_iff.mp hx).1; rw [List.size_toArray]; omega) hne (by simp [hne, hea]) fun x' h' tk hP ho hst' hT hsz hk => ?_
    obtain ⟨hit', ht'⟩ := hst'
    have ex : x' = u := by
      have h1 : its[i]? = some x' := by simpa using hP
      rw [hu] at h1
      exact (Option.some.inj h1).symm
    subst ex
    refine ⟨_, rfl, wpAny_letOwnedTupleGo_enum (s := { s with heap := h', toks := tk + 1 }) ho fun h'' he' sb => ?_⟩
    have hT2 : h''.get? s.heap.objs.size = some { cls := .type "tuple", data := .seq #[.int i tk, x'] } := (sb.2 _ (Nat.ne_of_gt hel)).trans hT
    have new : ObjOk X.prog X.w (upd H s.heap.objs.size (.tup [.int (i : Nat), x])) h'' s.heap.objs.size (.tup [.int (i : Nat), x]) :=
      ⟨by show 2 ≤ sizeLine; decide, [.int i tk, x'], .cons ⟨_, rfl⟩ (.cons ru .nil), ⟨_, hT2, rfl, _, rfl⟩⟩
    have I1 : Inv X pins σ (upd H s.heap.objs.size (.tup [.int (i : Nat), x])) { s with heap := h'', toks := tk + 1 } :=
      I.turnedNew (ch := [e, it]) (fun b ob hb q => (sb.2 b (fun z => hb (by simp [z]))).trans (hk b ob (fun z => hb (by simp [z])) (fun z => hb (by simp [z])) q)) hf (Nat.le_refl _) new
    refine ⟨.ref s.heap.objs.size, _, I1, rfl, ⟨_, x, rfl, I.hok.fresh (Nat.le_refl _), rfl, fun ys hy => by rw [I.tuple_inj hy hq]; exact hx⟩, ⟨⟨x', ?_⟩, hit'.at fun o q => (sb.2 it (Ne.symm hne)).trans q, hne, hea⟩, fun b hb => ?_⟩
    · have e1 : ((i + 1 : Nat) : Int) = (i : Int) + 1 := by omega
      rw [e1]; exact he'
    · have hb' : b < s.heap.objs.size := by
        have e' : b = e ∨ b = it := by simpa using hb
        rcases e' with z | z
        · rw [z]; exact hel
        · rw [z]; exact hil
      rw [upd_ne (Nat.ne_of_lt hb')]
      exact (hf b hb).1
  done := by
    intro X hP hw hK hc i pins s σ H E I hf st hg
    subst hP hw hK
    obtain ⟨⟨old, he⟩, hit, hne, hea⟩ := st
    obtain ⟨xs, hq, hx⟩ := hg
    obtain ⟨its, rv, p, hz⟩ := I.tuple hq
    obtain ⟨f0, f1, f2, f3, f4, f5⟩ := hf it (by simp)
    have hl := rv.length
    have e2 : i = its.toArray.size := by rw [List.size_toArray]; omega
    rw [e2] at hit he
    exact wpAny_pyNext_enum_endD (Draws.tuple (show X.A.in1.handled = none from I.ok.hd hc) it a hai its.toArray) he ⟨hit, tup_is p⟩ fun h' eb => ⟨rfl, I.turned (t' := s.toks) (fun b o hb q => eb b o hb q) f0 f1 f3 f4 f5⟩
  self := fun A i s Q E st h => let ⟨⟨_, he⟩, _⟩ := st; wpAny_pyIter_enum he h
def iEnumT (K : PySem.W.Frag) (ta : TA) : TI := fun σ H R => ta σ H fun vs H1 => ∃ a xs, vs = [.ref a] ∧ SqT K H1 a xs ∧ R (IteT K a) H1
theorem pi_enumT {X : Cx} {e : Expr} {ta : TA} {p pos tpos : Pos} {elts : List Expr} {kk : Nat} (hg : Gl X "enumerate") (hm : X.mg "enumerate" = none) (ha : PA X [e] ta) (hs : starEach [e] X.env = [(false, eval e X.env)] := by rfl) :
    PI X (.Tuple elts kk tpos) (.Call (.Name "enumerate" p) [e] [] pos) (iEnumT X.K ta) := by
  refine ⟨fun pins s σ H R I h => ?_⟩
  refine Call_ (ld_blt I hg hm boot_enumerate (PyProof.Rows.callWith_type1 (thn (ha.run pos pins s σ H _ I h) fun us s1 ⟨vs, H1, I1, r1, q1⟩ => ?_) hs rfl))
  obtain ⟨a, xs, ex, hq, q⟩ := q1
  subst ex
  cases r1 with
  | cons r rr =>
    cases rr
    cases r
    obtain ⟨its, rv, p', hz⟩ := I1.tuple hq
    have hal : a < s1.heap.objs.size := by obtain ⟨o, ho, _⟩ := p'; exact Heap.lt_size ho
    refine call_enumerate_tup (tup_is p') fun h' he hit hsz hk => wpAny_pyIter_enum he ?_
    have I2 : Inv X pins σ H1 { s1 with heap := h' } := I1.kept (t' := s1.toks) hk
    refine ⟨s1.heap.objs.size + 1, [s1.heap.objs.size + 1, s1.heap.objs.size], _, _, H1, rfl, I2, turn_enumTu a (s1.heap.objs.size + 1) s1.heap.objs.size (Nat.ne_of_lt hal), ⟨⟨.none, he⟩, hit, Nat.succ_ne_self _, Nat.ne_of_gt (Nat.lt_succ_of_lt hal)⟩, fun b hb => ?_, q⟩
    have e' : b = s1.heap.objs.size + 1 ∨ b = s1.heap.objs.size := by simpa using hb
    have hle : s1.heap.objs.size ≤ b := by
      rcases e' with z | z
      · rw [z]; exact Nat.le_add_right _ _
      · rw [z]; exact Nat.le_refl _
    exact I1.fpOk hle (I1.hok.fresh hle)
theorem for_enumT {K : PySem.W.Frag} {a : Addr} {xs : List V} {g : TG} {tb : TS} {D : Ends} {σ : L2.St} {H : Hp} (Pv : Nat → L2.St → Hp → Prop) (h0 : Pv 0 σ H) (hl : ∀ i σ H, i ≤ xs.length → Pv i σ H → SqT K H a xs)
    (hs : ∀ (i : Nat) x (T : Addr) σ H, xs[i]? = some x → Pv i σ H → H T = none → g (.ref T) σ (upd H T (.tup [.int i, x])) fun σ2 H2 => tb { D with nx := Pv (i + 1), ct := Pv (i + 1), bk := D.nx } σ2 H2) (hd : ∀ σ H, Pv xs.length σ H → D.nx σ H) :
    ∃ W : Nat → Nat → L2.St → Hp → Prop, (∃ m, W 0 m σ H) ∧ ∀ i m σ H, W i m σ H →
      ((IteT K a).stop i H ∧ D.nx σ H) ∨ ((IteT K a).go i H ∧ ∃ N : L2.St → Hp → Prop, (∀ σ' H', N σ' H' → ∃ m', m' < m ∧ W (i + 1) m' σ' H') ∧ ∀ x H', (IteT K a).yld i H x H' → g x σ H' fun σ2 H2 => tb { D with nx := N, ct := N, bk := D.nx } σ2 H2) := by
  refine ⟨fun i m σ H => m = xs.length - i ∧ i ≤ xs.length ∧ Pv i σ H, ⟨xs.length, by simp, Nat.zero_le _, h0⟩, ?_⟩
  rintro i m σ H ⟨rfl, hi, p⟩
  have q := hl i σ H hi p
  by_cases hlt : i < xs.length
  · refine .inr ⟨⟨xs, xs[i], q, List.getElem?_eq_getElem hlt⟩, Pv (i + 1), fun σ' H' p' => ⟨xs.length - (i + 1), by omega, rfl, hlt, p'⟩, fun x H' y => ?_⟩
    obtain ⟨T, z, rfl, hT, rfl, hz⟩ := y
    exact hs i z T σ H (hz xs q) p hT
  · have e : i = xs.length := by omega
    subst e
    exact .inl ⟨⟨xs, q, rfl⟩, hd σ H p⟩
/-! ### loops over any iterable: the forms one uses -/
theorem lc_it {I : It} {n : Nat} {g : TG} {tt : TT} {te : TE} {vs : List Nat} {σ : L2.St} {H1 : Hp} {D : Addr} {Qd : Hp → Prop} (Pv : Nat → Hp → Prop) (h0 : Pv 0 (upd H1 D (.lst [])))
    (hgo : ∀ i H, i < n → Pv i H → I.go i H) (hst : ∀ H, Pv n H → I.stop n H)
    (hs : ∀ i x H H', i < n → Pv i H → I.yld i H x H' → g x (wipe σ vs) H' fun σ2 H2 => wipe σ2 vs = wipe σ vs ∧ tt σ2 H2 fun b H3 =>
      if b = true then te σ2 H3 fun y H4 => ∃ acc, H4 D = some (.lst acc) ∧ acc.length < sizeLine ∧ Pv (i + 1) (upd H4 D (.lst (acc ++ [y]))) else Pv (i + 1) H3) (hd : ∀ H, Pv n H → Qd H) :
    ∃ W : Nat → Nat → Hp → Prop, (∃ m, W 0 m (upd H1 D (.lst []))) ∧ ∀ i m H, W i m H →
      (I.stop i H ∧ Qd H) ∨ (I.go i H ∧ ∃ Nx : Hp → Prop, (∀ H', Nx H' → ∃ m', m' < m ∧ W (i + 1) m' H') ∧ ∀ x H', I.yld i H x H' → g x (wipe σ vs) H' fun σ2 H2 => wipe σ2 vs = wipe σ vs ∧ tt σ2 H2 fun b H3 =>
        if b = true then te σ2 H3 fun y H4 => ∃ acc, H4 D = some (.lst acc) ∧ acc.length < sizeLine ∧ Nx (upd H4 D (.lst (acc ++ [y]))) else Nx H3) := by
  refine ⟨fun i m H => m = n - i ∧ i ≤ n ∧ Pv i H, ⟨n, by simp, Nat.zero_le _, h0⟩, ?_⟩
  rintro i m H ⟨rfl, hi, p⟩
  by_cases hlt : i < n
  · exact .inr ⟨hgo i H hlt p, Pv (i + 1), fun H' p' => ⟨n - (i + 1), by omega, rfl, hlt, p'⟩, fun x H' y => hs i x H H' hlt p y⟩
  · have e : i = n := by omega
    subst e
    exact .inl ⟨hst H p, hd H p⟩
theorem for_it {I : It} {n : Nat} {g : TG} {tb : TS} {D : Ends} {σ : L2.St} {H : Hp} (Pv : Nat → L2.St → Hp → Prop) (h0 : Pv 0 σ H)
    (hgo : ∀ i σ H, i < n → Pv i σ H → I.go i H) (hst : ∀ σ H, Pv n σ H → I.stop n H)
    (hs : ∀ i x σ H H', i < n → Pv i σ H → I.yld i H x H' → g x σ H' fun σ2 H2 => tb { D with nx := Pv (i + 1), ct := Pv (i + 1), bk := D.nx } σ2 H2) (hd : ∀ σ H, Pv n σ H → D.nx σ H) :
    ∃ W : Nat → Nat → L2.St → Hp → Prop, (∃ m, W 0 m σ H) ∧ ∀ i m σ H, W i m σ H →
      (I.stop i H ∧ D.nx σ H) ∨ (I.go i H ∧ ∃ N : L2.St → Hp → Prop, (∀ σ' H', N σ' H' → ∃ m', m' < m ∧ W (i + 1) m' σ' H') ∧ ∀ x H', I.yld i H x H' → g x σ H' fun σ2 H2 => tb { D with nx := N, ct := N, bk := D.nx } σ2 H2) := by
  refine ⟨fun i m σ H => m = n - i ∧ i ≤ n ∧ Pv i σ H, ⟨n, by simp, Nat.zero_le _, h0⟩, ?_⟩
  rintro i m σ H ⟨rfl, hi, p⟩
  by_cases hlt : i < n
  · exact .inr ⟨hgo i σ H hlt p, Pv (i + 1), fun σ' H' p' => ⟨n - (i + 1), by omega, rfl, hlt, p'⟩, fun x H' y => hs i x σ H H' hlt p y⟩
  · have e : i = n := by omega
    subst e
    exact .inl ⟨hst σ H p, hd σ H p⟩
/-- [.. for i, x in enumerate(xs)] -/
theorem lc_enum {K : PySem.W.Frag} {a : Addr} {xs : List V} {g : TG} {tt : TT} {te : TE} {vs : List Nat} {σ : L2.St} {H1 : Hp} {D : Addr} {Qd : Hp → Prop} (Pv : Nat → Hp → Prop) (h0 : Pv 0 (upd H1 D (.lst []))) (hl : ∀ i H, i ≤ xs.length → Pv i H → SqL K H a xs)
    (hs : ∀ (i : Nat) x (T : Addr) H, xs[i]? = some x → Pv i H → H T = none → g (.ref T) (wipe σ vs) (upd H T (.tup [.int i, x])) fun σ2 H2 => wipe σ2 vs = wipe σ vs ∧ tt σ2 H2 fun b H3 =>
      if b = true then te σ2 H3 fun y H4 => ∃ acc, H4 D = some (.lst acc) ∧ acc.length < sizeLine ∧ Pv (i + 1) (upd H4 D (.lst (acc ++ [y]))) else Pv (i + 1) H3) (hd : ∀ H, Pv xs.length H → Qd H) :
    ∃ W : Nat → Nat → Hp → Prop, (∃ m, W 0 m (upd H1 D (.lst []))) ∧ ∀ i m H, W i m H →
      ((Ite K a).stop i H ∧ Qd H) ∨ ((Ite K a).go i H ∧ ∃ Nx : Hp → Prop, (∀ H', Nx H' → ∃ m', m' < m ∧ W (i + 1) m' H') ∧ ∀ x H', (Ite K a).yld i H x H' → g x (wipe σ vs) H' fun σ2 H2 => wipe σ2 vs = wipe σ vs ∧ tt σ2 H2 fun b H3 =>
        if b = true then te σ2 H3 fun y H4 => ∃ acc, H4 D = some (.lst acc) ∧ acc.length < sizeLine ∧ Nx (upd H4 D (.lst (acc ++ [y]))) else Nx H3) := by
  refine lc_it (I := Ite K a) (n := xs.length) Pv h0 (fun i H hi p => ⟨xs, xs[i], hl i H (Nat.le_of_lt hi) p, List.getElem?_eq_getElem hi⟩) (fun H p => ⟨xs, hl _ H (Nat.le_refl _) p, Nat.le_refl _⟩) ?_ hd
  rintro i x H H' hi p ⟨T, z, rfl, hT, rfl, hz⟩
  exact hs i z T H (hz xs (hl i H (Nat.le_of_lt hi) p)) p hT
theorem for_enum' {K : PySem.W.Frag} {a : Addr} {xs : List V} {g : TG} {tb : TS} {D : Ends} {σ : L2.St} {H : Hp} (Pv : Nat → L2.St → Hp → Prop) (h0 : Pv 0 σ H) (hl : ∀ i σ H, i ≤ xs.length → Pv i σ H → SqL K H a xs)
    (hs : ∀ (i : Nat) x (T : Addr) σ H, xs[i]? = some x → Pv i σ H → H T = none → g (.ref T) σ (upd H T (.tup [.int i, x])) fun σ2 H2 => tb { D with nx := Pv (i + 1), ct := Pv (i + 1), bk := D.nx } σ2 H2) (hd : ∀ σ H, Pv xs.length σ H → D.nx σ H) :
    ∃ W : Nat → Nat → L2.St → Hp → Prop, (∃ m, W 0 m σ H) ∧ ∀ i m σ H, W i m σ H →
      ((Ite K a).stop i H ∧ D.nx σ H) ∨ ((Ite K a).go i H ∧ ∃ N : L2.St → Hp → Prop, (∀ σ' H', N σ' H' → ∃ m', m' < m ∧ W (i + 1) m' σ' H') ∧ ∀ x H', (Ite K a).yld i H x H' → g x σ H' fun σ2 H2 => tb { D with nx := N, ct := N, bk := D.nx } σ2 H2) := by
  refine for_it (I := Ite K a) (n := xs.length) Pv h0 (fun i σ H hi p => ⟨xs, xs[i], hl i σ H (Nat.le_of_lt hi) p, List.getElem?_eq_getElem hi⟩) (fun σ H p => ⟨xs, hl _ σ H (Nat.le_refl _) p, Nat.le_refl _⟩) ?_ hd
  rintro i x σ H H' hi p ⟨T, z, rfl, hT, rfl, hz⟩
  exact hs i z T σ H (hz xs (hl i σ H (Nat.le_of_lt hi) p)) p hT
/-- xs[i] of a list, as a value -/
theorem get_listI {X : Cx} : PGet X (rIxL X.K) := by
  intro pins s σ H o i ov iv Q I ro ri h
  obtain ⟨p, xs, k, z, rfl, rfl, hq, he, q⟩ := h
  cases ro
  obtain ⟨t, rfl⟩ := ri
  obtain ⟨its, r, pl, hz⟩ := I.list hq
  obtain ⟨j, h1, h2, h3, h4, h5⟩ := atI_get he
  obtain ⟨w, ew, rw'⟩ := r.get h2
  have hl := r.length
  have hn := line63
  have fin : EP X pins σ Q w s := ⟨z, H, I, rw', q⟩
  by_cases h0 : 0 ≤ k
  · have hj : k.toNat = j := by
      rw [seqIndex_of h0 h5] at h1
      exact Option.some.inj h1
    exact wpAny_getItem_list pl.isList h0 (by omega) (by rw [hj]; simpa using ew) fin
  · have hj : (k + (its.toArray.size : Int)).toNat = j := by
      rw [seqIndex_neg (by omega) h4] at h1
      rw [List.size_toArray, ← hl]
      exact Option.some.inj h1
    exact wpAny_getItem_list_neg pl.isList (by omega) (by rw [List.size_toArray] <;> omega) (by omega) (by rw [hj]; simpa using ew) fin
end Toy
/-! ### list(zip(xs, ys)), two lists -/
namespace PySem
theorem zip_no_len' : typeLookup (.type "zip") "__len__" = pure none := by rw [typeLookup_type, builtinLookup_eq_fast]; kernel_rfl
theorem zip_no_hint' : typeLookup (.type "zip") "__length_hint__" = pure none := by rw [typeLookup_type, builtinLookup_eq_fast]; kernel_rfl
end PySem
namespace Toy
open PySem PySem.Spec PyProof.Rows L2
open Sem (wp)
def zst (z TI TO i1 i2 l1 l2 S : Addr) (i : Nat) (h : Heap) : Prop := IsPair h TI (.ref i1) (.ref i2) ∧ h.IsListIter i1 l1 i ∧ h.IsListIter i2 l2 i ∧ (∃ oO, h.get? TO = some oO) ∧
  ((IsZip h z TI TO .none ∧ ∃ a b, IsPair h TO a b) ∨ ∃ T f oT, IsZipHeld h z TI TO T f ∧ h.get? T = some oT ∧ T ≠ z ∧ T ≠ i1 ∧ T ≠ i2 ∧ T ≠ S)
theorem zst.at {z TI TO i1 i2 l1 l2 S : Addr} {i : Nat} {h h' : Heap} (n : S ≠ z ∧ S ≠ TI ∧ S ≠ TO ∧ S ≠ i1 ∧ S ≠ i2) (k : ∀ b o, b ≠ S → h.get? b = some o → h'.get? b = some o) (st : zst z TI TO i1 i2 l1 l2 S i h) : zst z TI TO i1 i2 l1 l2 S i h' := by
  obtain ⟨nz, nTI, nTO, n1, n2⟩ := n
  obtain ⟨hTI, h1, h2, ⟨oO, hO⟩, hz⟩ := st
  refine ⟨k _ _ (Ne.symm nTI) hTI, h1.at fun o e => k _ o (Ne.symm n1) e, h2.at fun o e => k _ o (Ne.symm n2) e, ⟨oO, k _ _ (Ne.symm nTO) hO⟩, ?_⟩
  rcases hz with ⟨hz, a, b, hTO⟩ | ⟨T, f, oT, hz, hT, r1, r2, r3, r4⟩
  · exact .inl ⟨k _ _ (Ne.symm nz) hz, a, b, k _ _ (Ne.symm nTO) hTO⟩
  · exact .inr ⟨T, f, oT, k _ _ (Ne.symm nz) hz, k _ _ r4 hT, r1, r2, r3, r4⟩
def PairsAt (H : Hp) (ts : List Addr) (xs ys : List V) : Prop := ∀ (j : Nat) (t : Addr) (x y : V), ts[j]? = some t → xs[j]? = some x → ys[j]? = some y → H t = some (.tup [x, y])
theorem ext_zip {X : Cx} {pins : List (Addr × Obj)} {σ : L2.St} {z TI TO i1 i2 l1 l2 S : Addr} {A : Around} {R : Result → Shared → Prop} (hA : A.in1.handled = none) (D : ZipApart z TI TO i1 i2 l1 l2) {xs ys : List V} (hlen : xs.length = ys.length) (h1000 : xs.length ≤ 1000)
    (nS : S ≠ z ∧ S ≠ TI ∧ S ≠ TO ∧ S ≠ i1 ∧ S ≠ i2) (res : Value) (H0 : Hp) (hq : ∀ H', But S H0 H' → SqL X.K H' l1 xs ∧ SqL X.K H' l2 ys) :
    ∀ (k i : Nat) (s : Shared) (H : Hp) (ts : List Addr), xs.length - i = k → i ≤ xs.length → Inv X pins σ H s → (∀ b ∈ [z, TO, i1, i2], FpOk X pins H b) → zst z TI TO i1 i2 l1 l2 S i s.heap → But S H0 H →
    H S = some (.lst (ts.map V.ref)) → ts.length = i → PairsAt H ts xs ys →
    (∀ s' H' ts', Inv X pins σ H' s' → But S H0 H' → H' S = some (.lst (ts'.map V.ref)) → ts'.length = xs.length → PairsAt H' ts' xs ys → R (.ok (.ret res)) s') →
    codeAny (model X.prog X.w) A (.builtin "list.extend.loop" ⟨[.ref S, .ref z, res], []⟩) R s := by
  have hline : 1000 ≤ sizeLine := small (Nat.le_refl _)
  intro k
  induction k with
  | zero =>
    intro i s H ts hk hi I hf st hB hS hts hc hR
    have hin : i = xs.length := by omega
    obtain ⟨hTI, h1, h2, _, hz⟩ := st
    obtain ⟨q1, q2⟩ := hq H hB
    obtain ⟨its, rv, p1, _⟩ := I.list q1
    obtain ⟨its2, rv2, p2, _⟩ := I.list q2
    have l1' := rv.length
    have e1 : its.toArray[i]? = none := by simp; omega
    refine codeAny_builtin F.entry_extend_loop ?_
    rw [Around.under_plainId F.plain_extend_loop _]
    show wpAny _ A.in1 (pyNext (.ref z) >>= _) _ _ s
    refine wpAny_bind ?_
    have fin : ∀ h', (∀ c o, c ≠ z → c ≠ TO → c ≠ i1 → c ≠ i2 → s.heap.get? c = some o → h'.get? c = some o) → R (.ok (.ret res)) { s with heap := h' } := fun h' hk =>
      hR _ H ts (I.turnedL (t' := s.toks) (ch := [z, TO, i1, i2]) (fun c o hb q => hk c o (fun q' => hb (by simp [q'])) (fun q' => hb (by simp [q'])) (fun q' => hb (by simp [q'])) (fun q' => hb (by simp [q'])) q) hf) hB hS (by omega) hc
    rcases hz with ⟨hz, a, b, hTO⟩ | ⟨T, f, oT, hz, hT, r1, r2, r3, r4⟩
    · exact wpAny_pyNext_zip_end hA D hz hTI hTO h1 h2 p1.isList p2.isList (.inl e1) fun h' hk => wpAny_pure (fin h' hk)
    · exact wpAny_pyNext_zip_end_held hA D hz hT hTI h1 h2 p1.isList p2.isList (.inl e1) fun h' hk => wpAny_pure (fin h' fun c o c1 c2 c3 c4 e => hk c o c1 c3 c4 e)
  | succ k ih =>
    intro i s H ts hk hi I hf st hB hS hts hc hR
    have hlt : i < xs.length := by omega
    have hlt2 : i < ys.length := by omega
    obtain ⟨hTI, h1, h2, ⟨oO, hO⟩, hz⟩ := st
    obtain ⟨q1, q2⟩ := hq H hB
    obtain ⟨its, rv, p1, _⟩ := I.list q1
    obtain ⟨its2, rv2, p2, _⟩ := I.list q2
    obtain ⟨u, hu, ru⟩ := rv.get (List.getElem?_eq_getElem hlt)
    obtain ⟨u2, hu2, ru2⟩ := rv2.get (List.getElem?_eq_getElem hlt2)
    have lt : ∀ {c o}, s.heap.get? c = some o → s.heap.objs.size ≠ c := fun e => Nat.ne_of_gt (Heap.lt_size e)
    have n1 : s.heap.objs.size ≠ i1 := let ⟨_, e, _⟩ := h1; lt e
    have n2 : s.heap.objs.size ≠ i2 := let ⟨_, e, _⟩ := h2; lt e
    have nO : s.heap.objs.size ≠ TO := lt hO
    have hfr : H s.heap.objs.size = none := I.hok.fresh (Nat.le_refl _)
    have nNS : S ≠ s.heap.objs.size := ne_of_none hS hfr
    refine codeAny_builtin F.entry_extend_loop ?_
    rw [Around.under_plainId F.plain_extend_loop _]
    show wpAny _ A.in1 (pyNext (.ref z) >>= _) _ _ s
    refine wpAny_bind ?_
    have nz : s.heap.objs.size ≠ z := by
      rcases hz with ⟨hz, _⟩ | ⟨_, _, _, hz, _⟩
      · exact lt hz
      · exact lt hz
    -- one step on
    have on : ∀ h', IsPair h' s.heap.objs.size u u2 → (∀ c o, c ≠ z → c ≠ TO → c ≠ i1 → c ≠ i2 → s.heap.get? c = some o → h'.get? c = some o) → zst z TI TO i1 i2 l1 l2 S (i + 1) h' →
        wpAny (model X.prog X.w) A.in1 (updateSeq S (·.push (.ref s.heap.objs.size)) >>= fun _ => again (.builtin "list.extend.loop" ⟨[.ref S, .ref z, res], []⟩))
          (fun fin s' => match fin with | .done f => R (.ok f) s' | .again c' => c'.quiet = true ∧ codeAny (model X.prog X.w) A c' R s') (fun e s' => R (.error e) s') { s with heap := h' } := by
      intro h' a5 hk' st'
      have new : ObjOk X.prog X.w (upd H s.heap.objs.size (.tup [xs[i], ys[i]])) h' s.heap.objs.size (.tup [xs[i], ys[i]]) :=
        ⟨by show 2 ≤ sizeLine; decide, [u, u2], .cons ru (.cons ru2 .nil), ⟨_, a5, rfl, _, rfl⟩⟩
      have I1 : Inv X pins σ (upd H s.heap.objs.size (.tup [xs[i], ys[i]])) { s with heap := h' } :=
        I.turnedNew (t' := s.toks) (ch := [z, TO, i1, i2]) (fun c o hb q => hk' c o (fun q' => hb (by simp [q'])) (fun q' => hb (by simp [q'])) (fun q' => hb (by simp [q'])) (fun q' => hb (by simp [q'])) q) hf (Nat.le_refl _) new
      have hS1 : (upd H s.heap.objs.size (.tup [xs[i], ys[i]])) S = some (.lst (ts.map V.ref)) := by rw [upd_ne nNS]; exact hS
      obtain ⟨hz1, its3, n3, rv3, hl3, hS3⟩ := I1.lstM hS1
      have hl3' : its3.length = i := by rw [← hl3, List.length_map, hts]
      have I2 := I1.lset (f := (·.push (.ref s.heap.objs.size))) (ys := (ts ++ [s.heap.objs.size]).map V.ref) (its' := its3 ++ [.ref s.heap.objs.size]) (t' := s.toks) hS1 hS3 (by simp) (by rw [List.map_append]; exact rv3.append (.cons rfl .nil)) (by rw [List.length_map, List.length_append, hts]; show i + 1 ≤ sizeLine; omega)
      refine wpAny_bind ?_
      refine wpAny_updateSeq hS3 rfl (wpAny_pure ⟨plainId_quiet F.plain_extend_loop _, ih (i + 1) _ _ (ts ++ [s.heap.objs.size]) (by omega) hlt I2 (fun b hb => ?_) (st'.at nS fun b o hb e => (Heap.get?_update_other _ _ (Ne.symm hb)).trans e) ?_ upd_same (by rw [List.length_append, hts] <;> rfl) ?_ hR⟩) (by rw [List.size_toArray]; omega) (by simp; omega)
      · have h0 := hf b hb
        refine ⟨?_, h0.2⟩
        have nb : b ≠ s.heap.objs.size := by
          simp only [List.mem_cons, List.not_mem_nil, or_false] at hb
          rcases hb with rfl | rfl | rfl | rfl
          · exact Ne.symm nz
          · exact Ne.symm nO
          · exact Ne.symm n1
          · exact Ne.symm n2
        have nb2 : b ≠ S := by
          obtain ⟨m1, m2, m3, m4, m5⟩ := nS
          simp only [List.mem_cons, List.not_mem_nil, or_false] at hb
          rcases hb with rfl | rfl | rfl | rfl
          · exact Ne.symm m1
          · exact Ne.symm m3
          · exact Ne.symm m4
          · exact Ne.symm m5
        rw [upd_ne nb2, upd_ne nb]
        exact h0.1
      · exact fun c o hc e => by
          have e' := hB c o hc e
          rw [upd_ne hc, upd_ne (ne_of_none e' hfr)]
          exact e'
      · intro j t x y hj hx hy
        by_cases c : j < i
        · rw [List.getElem?_append_left (by omega)] at hj
          have h5 := hc j t x y hj hx hy
          have nt : t ≠ S := ne_of h5 hS (by intro w; cases w)
          rw [upd_ne nt, upd_ne (ne_of_none h5 hfr)]
          exact h5
        · have hj2 := (List.getElem?_eq_some_iff.mp hj).1
          rw [List.length_append] at hj2
          have hj3 : j < ts.length + 1 := hj2
          have : j = i := by omega
          subst this
          rw [List.getElem?_append_right (by omega), hts, Nat.sub_self] at hj
          cases (Option.some.inj hj)
          rw [List.getElem?_eq_getElem hlt] at hx
          rw [List.getElem?_eq_getElem hlt2] at hy
          cases (Option.some.inj hx)
          cases (Option.some.inj hy)
          rw [upd_ne (Ne.symm nNS), upd_same]
    rcases hz with ⟨hz, a, b, hTO⟩ | ⟨T, f, oT, hz, hT, r1, r2, r3, r4⟩
    · refine wpAny_pyNext_zip_item D hz hTI hTO h1 h2 p1.isList p2.isList (x := u) (y := u2) (by simpa using hu) (by simpa using hu2) fun h' a1 a2 a3 a4 a5 a6 hk' => ?_
      exact on h' a5 hk' ⟨hk' _ _ D.TIz D.TITO D.TIi1 D.TIi2 hTI, a3, a4, ⟨_, a2⟩, .inr ⟨s.heap.objs.size, false, _, a1, a5, nz, n1, n2, Ne.symm nNS⟩⟩
    · refine wpAny_pyNext_zip_item_held D hz hT hTI h1 h2 p1.isList p2.isList (x := u) (y := u2) (by simpa using hu) (by simpa using hu2) fun h' a1 a3 a4 a5 a6 hk' => ?_
      exact on h' a5 (fun c o c1 c2 c3 c4 e => hk' c o c1 c3 c4 e) ⟨hk' _ _ D.TIz D.TIi1 D.TIi2 hTI, a3, a4, ⟨oO, hk' _ _ D.TOz D.TOi1 D.TOi2 hO⟩, .inr ⟨T, true, oT, a1, hk' _ _ r1 r2 r3 hT, r1, r2, r3, r4⟩⟩
theorem list_of_zip {X : Cx} {pins : List (Addr × Obj)} {σ : L2.St} {H : Hp} {s : Shared} (I : Inv X pins σ H s) (hcalm : X.calm = true) {z TI TO i1 i2 l1 l2 : Addr} (D : ZipApart z TI TO i1 i2 l1 l2) {xs ys : List V} (hlen : xs.length = ys.length) (h1000 : xs.length ≤ 1000)
    (hz : IsZip s.heap z TI TO .none) (hTI : IsPair s.heap TI (.ref i1) (.ref i2)) (hTO : ∃ a b, IsPair s.heap TO a b) (h1 : s.heap.IsListIter i1 l1 0) (h2 : s.heap.IsListIter i2 l2 0)
    (hf : ∀ b ∈ [z, TO, i1, i2], FpOk X pins H b) (hq1 : SqL X.K H l1 xs) (hq2 : SqL X.K H l2 ys) {Q : VK}
    (q : ∀ S ts H2, Same H H2 → H S = none → H2 S = some (.lst (ts.map V.ref)) → ts.length = xs.length → PairsAt H2 ts xs ys → Q (.ref S) H2) :
    wpAny (model X.prog X.w) X.A (call (.type "list") [.ref z]) (EP X pins σ Q) X.xe s := by
  have hh : X.A.in1.in1.handled = none := show X.A.handled = none from I.ok.hd hcalm
  obtain ⟨a0, b0, hTO⟩ := hTO
  have nz : s.heap.objs.size ≠ z := Nat.ne_of_gt (Heap.lt_size hz)
  have nTI : s.heap.objs.size ≠ TI := Nat.ne_of_gt (Heap.lt_size hTI)
  have nTO : s.heap.objs.size ≠ TO := Nat.ne_of_gt (Heap.lt_size hTO)
  have n1 : s.heap.objs.size ≠ i1 := let ⟨_, e, _⟩ := h1; Nat.ne_of_gt (Heap.lt_size e)
  have n2 : s.heap.objs.size ≠ i2 := let ⟨_, e, _⟩ := h2; Nat.ne_of_gt (Heap.lt_size e)
  have hfr : H s.heap.objs.size = none := I.hok.fresh (Nat.le_refl _)
  refine callType_codes (Q₁ := fun obj s₁ => obj = .ref s.heap.objs.size ∧ s₁ = { s with heap := s.heap.push { cls := .type "list", data := .seq #[] } }) F.called_list (F.typeCall_list_1 _) F.entry_list_init
    (code_list_new _ ⟨rfl, rfl⟩) fun obj s₁ h₁ => ?_
  obtain ⟨rfl, rfl⟩ := h₁
  have hS : (s.heap.push { cls := .type "list", data := .seq #[] }).get? s.heap.objs.size = some { cls := .type "list", data := .seq #[] } := Heap.get?_push_size _ rfl
  refine ⟨⟨_, hS, rfl⟩, F.args_list_init_2 _ _, ?_⟩
  show wpAny _ X.A.in1.in1 (do let old ← Builtin.List.listItems (.ref s.heap.objs.size); Builtin.List.listUpdate (.ref s.heap.objs.size) (fun _ => #[]); letGo old.toList.reverse; Builtin.List.listExtendWith (.ref s.heap.objs.size) (.ref z) .none) _ _ _
  refine wpAny_bind ?_
  unfold Builtin.List.listItems
  refine wpAny_bind (wpAny_seqItems hS rfl (wpAny_pure ?_))
  show wpAny _ X.A.in1.in1 (updateSeq s.heap.objs.size (fun _ => #[]) >>= fun _ => letGo (#[] : Array Value).toList.reverse >>= fun _ => Builtin.List.listExtendWith (.ref s.heap.objs.size) (.ref z) .none) _ _ _
  refine wpAny_bind (wpAny_updateSeq hS rfl ?_)
  have hS₂ := Heap.get?_update_self (Obj.mapSeq (fun _ => (#[] : Array Value))) hS rfl
  have oth : ∀ b o, b ≠ s.heap.objs.size → s.heap.get? b = some o → ((s.heap.push { cls := .type "list", data := .seq #[] }).update s.heap.objs.size (Obj.mapSeq (fun _ => (#[] : Array Value)))).get? b = some o :=
    fun b o hb e => (Heap.get?_update_other _ _ (Ne.symm hb)).trans (Heap.get?_push_of_some _ e)
  refine wpAny_bind (wpAny_letGo ?_)
  generalize hh2 : (s.heap.push { cls := .type "list", data := .seq #[] }).update s.heap.objs.size (Obj.mapSeq (fun _ => (#[] : Array Value))) = hp2 at hS₂ oth
  unfold Builtin.List.listExtendWith
  refine wpAny_bind (wpAny_typeOf (T := "zip") ⟨_, oth _ _ (Ne.symm nz) hz, rfl⟩ ?_)
  have g1 : Builtin.List.listSameRef (.ref s.heap.objs.size) (.ref z) = false := by simp [Builtin.List.listSameRef, nz]
  have g2 : (Value.type "zip" == Value.type "list") = false := by decide
  have g3 : (Value.type "zip" == Value.type "tuple") = false := by decide
  simp only [g1, g2, g3, Bool.or_false, Bool.false_eq_true, if_false]
  refine wpAny_bind (wpAny_pyIter_zip (oth _ _ (Ne.symm nz) hz) ?_)
  refine wpAny_bind (wpAny_holding ?_)
  unfold Builtin.List.listLengthHint
  refine wpAny_bind (wpAny_specialOf (T := "zip") ⟨_, oth _ _ (Ne.symm nz) hz, rfl⟩ zip_no_len' ?_)
  show wpAny _ X.A.in1.in1 (specialOf (Value.ref z) (Str.ofString "__length_hint__") >>= _) _ _ _
  refine wpAny_bind (wpAny_specialOf (T := "zip") ⟨_, oth _ _ (Ne.symm nz) hz, rfl⟩ zip_no_hint' ?_)
  refine wpAny_pure ?_
  show wpAny _ X.A.in1.in1 (rule "list.extend.makes-room" >>= fun _ => Builtin.List.listTouch (.ref s.heap.objs.size) >>= fun _ =>
    again (.builtin "list.extend.loop" ⟨[.ref s.heap.objs.size, .ref z, .none], []⟩)) _ _ _
  refine wpAny_bind (wpAny_rule ?_)
  refine wpAny_bind ?_
  show wpAny _ X.A.in1.in1 (updateSeq s.heap.objs.size (·.push .none) >>= fun _ => updateSeq s.heap.objs.size (·.pop)) _ _ _
  refine wpAny_bind (wpAny_updateSeq hS₂ rfl ?_)
  have hS₃ := Heap.get?_update_self (Obj.mapSeq (·.push Value.none)) hS₂ rfl
  refine wpAny_updateSeq (hz := by seq_fits) hS₃ rfl ?_
  have hS₄ := Heap.get?_update_self (Obj.mapSeq (·.pop)) hS₃ rfl
  have oth2 : ∀ b o, b ≠ s.heap.objs.size → s.heap.get? b = some o → ((hp2.update s.heap.objs.size (Obj.mapSeq (·.push Value.none))).update s.heap.objs.size (Obj.mapSeq (·.pop))).get? b = some o :=
    fun b o hb e => (Heap.get?_update_other _ _ (Ne.symm hb)).trans ((Heap.get?_update_other _ _ (Ne.symm hb)).trans (oth b o hb e))
  have new : ObjOk X.prog X.w (upd H s.heap.objs.size (.lst [])) ((hp2.update s.heap.objs.size (Obj.mapSeq (·.push Value.none))).update s.heap.objs.size (Obj.mapSeq (·.pop))) s.heap.objs.size (.lst []) :=
    ⟨Nat.zero_le _, [], _, .nil, hS₄⟩
  have I1 : Inv X pins σ (upd H s.heap.objs.size (.lst [])) { s with heap := (hp2.update s.heap.objs.size (Obj.mapSeq (·.push Value.none))).update s.heap.objs.size (Obj.mapSeq (·.pop)) } :=
    I.laid (t' := s.toks) (fun b u e => oth2 b u (Nat.ne_of_lt (Heap.lt_size e)) e) (Nat.le_refl _) new
  have S1 := same_new hfr (.lst [])
  refine wpAny_pure ⟨plainId_quiet F.plain_extend_loop _, ext_zip (A := X.A.in1) (R := wants (fun r s₂ => r = Value.none ∧ EP X pins σ Q (Value.ref s.heap.objs.size) s₂) X.xe) hh D hlen h1000 ⟨nz, nTI, nTO, n1, n2⟩ .none (upd H s.heap.objs.size (.lst [])) (fun H' B' => ?_) (xs.length - 0) 0 _ _ [] rfl (Nat.zero_le _) I1 (fun b hb => ?_) ?_ But.refl upd_same rfl (fun j t x y hj => by simp at hj) fun s' H' ts' I' B' hS' hl' hp' => ⟨rfl, .ref s.heap.objs.size, H', I', rfl, q _ ts' H' (but_same hfr S1 B') hfr hS' hl' hp'⟩⟩
  · have S2 := but_same hfr S1 B'
    exact ⟨S2.seq hq1, S2.seq hq2⟩
  · have h0 := hf b hb
    refine ⟨?_, h0.2⟩
    have nb2 : b ≠ s.heap.objs.size := by
      simp only [List.mem_cons, List.not_mem_nil, or_false] at hb
      rcases hb with rfl | rfl | rfl | rfl
      · exact Ne.symm nz
      · exact Ne.symm nTO
      · exact Ne.symm n1
      · exact Ne.symm n2
    rw [upd_ne nb2]
    exact h0.1
  · exact ⟨oth2 _ _ (Ne.symm nTI) hTI, h1.at fun o e => oth2 _ o (Ne.symm n1) e, h2.at fun o e => oth2 _ o (Ne.symm n2) e, ⟨_, oth2 _ _ (Ne.symm nTO) hTO⟩, .inl ⟨oth2 _ _ (Ne.symm nz) hz, a0, b0, oth2 _ _ (Ne.symm nTO) hTO⟩⟩
def tListZip (K : PySem.W.Frag) (ta : TA) : TE := fun σ H Q => ta σ H fun vs H1 => ∃ a b xs ys, vs = [.ref a, .ref b] ∧ SqL K H1 a xs ∧ SqL K H1 b ys ∧ xs.length = ys.length ∧ xs.length ≤ 1000 ∧
  ∀ S ts H2, Same H1 H2 → H1 S = none → H2 S = some (.lst (ts.map V.ref)) → ts.length = xs.length → PairsAt H2 ts xs ys → Q (.ref S) H2
theorem pe_listZip {X : Cx} {e e2 : Expr} {ta : TA} {p p2 pos pos2 : Pos} (hc : X.calm = true) (hg0 : Gl X "list") (hm0 : X.mg "list" = none) (hg : Gl X "zip") (hm : X.mg "zip" = none) (ha : PA X [e, e2] ta)
    (hs : starEach [e, e2] X.env = (false, eval e X.env) :: starEach [e2] X.env := by rfl) (hpl : (backTo pos2 (starEach [e2] X.env)).any (·.1) = false := by rfl)
    (na : starEach [.Call (.Name "zip" p2) [e, e2] [] pos2] X.env = (false, eval (.Call (.Name "zip" p2) [e, e2] [] pos2) X.env) :: starEach [] X.env := by rfl) :
    PE X (.Call (.Name "list" p) [.Call (.Name "zip" p2) [e, e2] [] pos2] [] pos) (tListZip X.K ta) := by
  refine ⟨fun pins s σ H Q I h => ?_⟩
  refine Call_ (ld_blt I hg0 hm0 boot_list (PyProof.Rows.callWith_type1 (args_cons ?_ na) na))
  refine Call_ (ld_blt I hg hm PyProof.Rows.boot_zip (PyProof.Rows.callWith_type1 (thn (ha.run pos2 pins s σ H _ I h) fun us s1 ⟨vs, H1, I1, r1, q1⟩ => ?_) hs hpl))
  obtain ⟨a, b, xs, ys, ex, hqx, hqy, hl, h1000, q⟩ := q1
  subst ex
  cases r1 with
  | cons r rr =>
    cases rr with
    | cons r' rr =>
      cases rr
      cases r
      cases r'
      obtain ⟨its, rv, p1, _⟩ := I1.list hqx
      obtain ⟨its2, rv2, p2, _⟩ := I1.list hqy
      have la : a < s1.heap.objs.size := p1.lt
      have lb : b < s1.heap.objs.size := p2.lt
      refine call_zip_2 p1.isList p2.isList fun h' hz hTI hTO h1 h2 hsz hk => args_nil ?_
      have I2 : Inv X pins σ H1 { s1 with heap := h' } := I1.kept (t' := s1.toks) hk
      refine list_of_zip (s := { s1 with heap := h' }) I2 hc (PySem.W.ktu_apart s1.heap.objs.size a b la lb) hl h1000 hz hTI ⟨_, _, hTO⟩ h1 h2 (fun c hcm => ?_) hqx hqy q
      have e' : c = s1.heap.objs.size + 4 ∨ c = s1.heap.objs.size + 3 ∨ c = s1.heap.objs.size ∨ c = s1.heap.objs.size + 1 := by simpa using hcm
      have hle : s1.heap.objs.size ≤ c := by
        rcases e' with z | z | z | z
        · rw [z]; exact Nat.le_add_right _ _
        · rw [z]; exact Nat.le_add_right _ _
        · rw [z]; exact Nat.le_refl _
        · rw [z]; exact Nat.le_add_right _ _
      exact I1.fpOk hle (I1.hok.fresh hle)
end Toy
/-! ### sorted(t) of a tuple -/
namespace SrtO
open PySem PyProof.Rows Srt
section
variable {prog : Program} {w : World} {A : Around} {E : Value → Shared → Prop} {s : Shared}
theorem collect_tupT {l : Addr} {vs : List Value} {Q : List Value → Shared → Prop} (hl : s.heap.IsTuple l vs.toArray)
    (h : Q vs { s with heap := (s.heap.push (seqObj "list" #[] 0)).update s.heap.objs.size (Obj.mapSeq (· ++ vs.toArray)) }) (hsz : vs.length ≤ sizeLine := by size_fits) :
    wpAny (model prog w) A (collect (.ref l)) Q E s := by
  obtain ⟨o, ho, hc, n, hd⟩ := id hl
  unfold collect
  refine wpAny_bind (wpAny_runValue (codeAny_builtin entry_proto_collect' ?_))
  show wpAny _ _ (do again (.builtin "list.__iadd__" ⟨[← newList [], .ref l], []⟩)) _ _ s
  refine wpAny_bind (wpAny_newList (wpAny_pure ⟨Code.quiet_builtin _ (by decide +kernel), codeAny_builtin entry_list_iadd' ?_⟩))
  show wpAny _ _ (Builtin.List.listExtendWith (.ref s.heap.objs.size) (.ref l) (.ref s.heap.objs.size)) _ _ { s with heap := s.heap.push (seqObj "list" #[] 0) }
  unfold Builtin.List.listExtendWith
  have ho' : (s.heap.push (seqObj "list" #[] 0)).get? l = some o := Heap.get?_push_of_some _ ho
  refine wpAny_bind (wpAny_typeOf (T := "tuple") ⟨o, ho', hc⟩ ?_)
  have ht : (Value.type "tuple" == Value.type "tuple") = true := by rfl
  rw [if_pos (by rw [ht]; simp)]
  refine wpAny_bind (listItems_at ho' hd ?_)
  refine wpAny_bind (listItems_at (xs := #[]) (n := 0) (Heap.get?_push_size _ rfl) rfl ?_)
  rw [if_neg (by simp)]
  refine wpAny_bind (listUpdate_at (xs := #[]) (n := 0) (Heap.get?_push_size _ rfl) rfl ?_ (Nat.zero_le _) (by show (#[] ++ vs.toArray).size ≤ sizeLine + 1; simp only [Array.size_append, List.size_toArray, List.length_nil]; omega))
  refine wpAny_pure ?_
  show wpAny (model prog w) A (do
      let o ← load s.heap.objs.size
      match o.data with
      | .seq xs _ => pure xs.toList
      | _ => unsupported "internal:collect") Q E { s with heap := (s.heap.push (seqObj "list" #[] 0)).update s.heap.objs.size (Obj.mapSeq (· ++ vs.toArray)) }
  refine wpAny_bind (wpAny_load (get?_update_seq (Heap.get?_push_size _ rfl) _) ?_)
  show wpAny _ _ (pure ((#[] : Array Value) ++ vs.toArray).toList) Q E _
  rw [show ((#[] : Array Value) ++ vs.toArray).toList = vs by simp]
  exact wpAny_pure h
theorem sorted_ordT {l : Addr} {vs : List Value} {ltv : Value → Value → Bool} {Q : Value → Shared → Prop} (O : Swo ltv) (hl : s.heap.IsTuple l vs.toArray) (hz : vs.length ≤ sizeLine)
    (hS : 2 ≤ vs.length → ∀ (h₁ : Heap) (a : Addr), h₁.get? a = some (seqObj "list" vs.toArray 0) → (∀ b o, s.heap.get? b = some o → b ≠ a ∧ h₁.get? b = some o) → SortableO prog w A.in1.in1 { s with heap := h₁ } a vs ltv)
    (h : ∀ out : List Value, Srtd ltv out → Stb ltv out vs → Q (.ref (s.heap.objs.size + 1)) { s with heap := sortedAll s.heap vs out.toArray }) :
    wpAny (model prog w) A (call (.builtin "sorted") [.ref l]) Q E s := by
  refine Calls.call_function_entry kind_sorted plain_sorted entry_sorted (args_sorted1 _) ?_
  unfold Builtin.«sorted»
  refine wpAny_bind (m := checkCount "sorted" 1 1 _) (wpAny_pure ?_)
  refine wpAny_bind (collect_tupT hl ?_ hz)
  refine wpAny_bind (wpAny_newList ?_ hz)
  have hsz : ((s.heap.push (seqObj "list" #[] 0)).update s.heap.objs.size (Obj.mapSeq (· ++ vs.toArray))).objs.size = s.heap.objs.size + 1 := by
    rw [Heap.size_update, size_push']
  have hoL : (((s.heap.push (seqObj "list" #[] 0)).update s.heap.objs.size (Obj.mapSeq (· ++ vs.toArray))).push (seqObj "list" vs.toArray 0)).get? (s.heap.objs.size + 1) = some (seqObj "list" vs.toArray 0) := by
    rw [← hsz]; exact Heap.get?_push_size _ rfl
  have keep : ∀ b o, s.heap.get? b = some o → b ≠ s.heap.objs.size + 1 ∧ (((s.heap.push (seqObj "list" #[] 0)).update s.heap.objs.size (Obj.mapSeq (· ++ vs.toArray))).push (seqObj "list" vs.toArray 0)).get? b = some o := fun b o q => by
    have hlt : b < s.heap.objs.size := Heap.lt_size q
    refine ⟨Nat.ne_of_lt (Nat.lt_succ_of_lt hlt), Heap.get?_push_of_some _ ?_⟩
    rw [Heap.get?_update_ne _ _ _ _ (Nat.ne_of_lt hlt)]
    exact Heap.get?_push_of_some _ q
  show wpAny _ _ _ _ _ { s with heap := ((s.heap.push (seqObj "list" #[] 0)).update s.heap.objs.size (Obj.mapSeq (· ++ vs.toArray))).push (seqObj "list" vs.toArray 0) }
  rw [hsz]
  refine wpAny_bind (wpAny_holding (wpAny_call_entry slot_list_sort ⟨_, hoL, rfl⟩ entry_list_sort (list_sort_ord O hoL hz (fun h2 => hS h2 _ _ hoL keep) fun out hs hb => ⟨_, rfl, ?_⟩) (args_list_sort _)))
  exact wpAny_pure ⟨_, rfl, h out hs hb⟩
end
end SrtO
namespace Toy
open PySem PySem.Spec PyProof.Rows L2
def rSortedIT (K : PySem.W.Frag) : List V → Hp → VK → Prop := fun vs H Q => ∃ (a : Addr) (ns : List Int), vs = [V.ref a] ∧ SqT K H a (ns.map V.int) ∧
  ∀ (ns' : List Int) (p : Addr), ns'.Perm ns → ns'.Pairwise (· ≤ ·) → H p = none → Q (.ref p) (upd H p (.lst (ns'.map V.int)))
theorem cr_sortedIT {X : Cx} : CallR X (.builtin "sorted") (rSortedIT X.K) := by
  intro pins s σ H vs us Q I r h
  obtain ⟨a, ns, rfl, hs, q⟩ := h
  obtain ⟨its, rv, hl, hz⟩ := I.tuple hs
  rw [Vals.ref1 r]
  have hi := rv.ints
  refine SrtO.sorted_ordT SrtO.swo_int (tup_is hl) (by rw [← rv.length]; exact hz) (fun h2 h₁ a' _ _ => SrtO.ints_sortable hi h2) fun out h1 h2 => ?_
  obtain ⟨k1, k2, k3⟩ := SrtO.ints_out hi h1 h2
  obtain ⟨ep, he'⟩ := PyProof.Rows.sortedAll_at s.heap its out.toArray
  have hlen : ((out.map SrtO.iv).map V.int).length ≤ sizeLine := by
    rw [List.length_map, k2.length_eq]
    rw [List.length_map] at hz
    exact hz
  exact ⟨.ref _, upd H (s.heap.objs.size + 1) (.lst ((out.map SrtO.iv).map V.int)), I.laid (t' := s.toks) (fun _ _ => PyProof.Rows.sortedAll_old) (Nat.le_succ _) ⟨hlen, out, ep, vals_of_ints k1, he'⟩, rfl, q _ _ k2 k3 (I.hok.fresh (Nat.le_succ _))⟩
/-! ### xs[lo::step] of a list of an even number of things, by twos -/
def by2 {α : Type} (lo : Nat) (xs : List α) : List α := (List.range (xs.length / 2)).filterMap fun i => xs[lo + 2 * i]?
def tStep (K : PySem.W.Frag) (lo : Nat) (te : TE) : TE := fun σ H Q => te σ H fun x H1 => ∃ a xs, x = .ref a ∧ SqL K H1 a xs ∧ xs.length % 2 = 0 ∧ ∀ p, H1 p = none → Q (.ref p) (upd H1 p (.lst (by2 lo xs)))
theorem by2_len {α : Type} {lo : Nat} (hl : lo ≤ 1) {xs : List α} : (by2 lo xs).length ≤ xs.length := by
  unfold by2
  refine Nat.le_trans (List.length_filterMap_le _ _) ?_
  rw [List.length_range]
  omega
theorem pick2 {lo : Nat} (hl : lo ≤ 1) {its : List Value} (h2 : its.length % 2 = 0) : slicePick its.toArray (some (lo : Int)) none (some 2) = (by2 lo its).toArray := by
  unfold slicePick by2
  congr 1
  have e : sliceBounds (some (lo : Int)) none (some 2) its.toArray.size = (if its.length = 0 then (0 : Int) else (lo : Int), (its.length : Int), 2) := by
    simp only [sliceBounds, Option.getD_some, List.size_toArray]
    have h1 : ¬ ((lo : Int) < 0) := by omega
    simp only [h1, if_false, show (2 : Int) > 0 by decide, if_true]
    split
    · congr 1; omega
    · congr 1; omega
  rw [e]
  dsimp only
  unfold sliceRange
  by_cases h0 : its.length = 0
  · have : its = [] := List.eq_nil_of_length_eq_zero h0
    subst this
    rfl
  · simp only [h0, if_false, show (2 : Int) > 0 by decide, if_true]
    rw [if_pos (by omega : (lo : Int) < (its.length : Int)), show (((its.length : Int) - lo + 2 - 1) / 2).toNat = its.length / 2 by omega, List.filterMap_map]
    refine congrArg (fun f => List.filterMap f (List.range (its.length / 2))) (funext fun k => ?_)
    show its.toArray[((lo : Int) + 2 * (k : Int)).toNat]? = _
    rw [show ((lo : Int) + 2 * (k : Int)).toNat = lo + 2 * k by omega]
    simp
theorem Vals.by2 {lo : Nat} {xs : List V} {us : List Value} (r : Vals xs us) : Vals (by2 lo xs) (by2 lo us) := by
  unfold Toy.by2
  rw [r.length]
  generalize List.range (us.length / 2) = l
  induction l with
  | nil => exact .nil
  | cons i l ih =>
    cases hx : xs[lo + 2 * i]? with
    | none =>
      have hu : us[lo + 2 * i]? = none := by
        rw [List.getElem?_eq_none_iff] at hx ⊢
        rw [← r.length]; exact hx
      rw [List.filterMap_cons, List.filterMap_cons, hx, hu]
      exact ih
    | some x =>
      obtain ⟨u, hu, ru⟩ := r.get hx
      rw [List.filterMap_cons, List.filterMap_cons, hx, hu]
      exact .cons ru ih
theorem pe_step2 {X : Cx} {e : Expr} {te : TE} {lo : Nat} (hlo : lo ≤ 1) {i : Int} (hi : i = (lo : Int)) {k j : Nat} {p1 p2 p3 pos : Pos} (he : PE X e te) : PE X (.Subscript e (.Slice (some (.Constant (.int i) k p1)) none (some (.Constant (.int 2) j p2)) p3) pos) (tStep X.K lo te) := by
  subst hi
  refine ⟨fun pins s σ H Q I h => ?_⟩
  refine Subscript_ (thn (he.run pins s σ H _ I h) fun v s1 ⟨x, H1, I1, r1, q1⟩ => ?_)
  obtain ⟨a, xs, ex, hx, heven, q⟩ := q1
  subst ex
  cases r1
  have hlw : PO X (some (.Constant (.int (lo : Int)) k p1)) (tPart (tC (.int (lo : Int)))) := po_some pe_int
  have hst : PO X (some (.Constant (.int 2) j p2)) (tPart (tC (.int 2))) := po_some pe_int
  refine wpAny_Slice (thn (hlw.run pins s1 σ H1 (fun o H2 => o = some (lo : Int) ∧ H2 = H1) I1 ⟨_, rfl, rfl, rfl⟩) fun vl s2 ⟨l, H2, I2, pl, el, e2⟩ => ?_)
  subst el e2
  refine thn (po_none.run pins s2 σ H2 (fun o H3 => o = none ∧ H3 = H2) I2 ⟨rfl, rfl⟩) fun vu s3 ⟨u, H3, I3, pu, eu, e3⟩ => ?_
  subst eu e3
  refine thn (hst.run pins s3 σ H3 (fun o H4 => o = some 2 ∧ H4 = H3) I3 ⟨2, rfl, rfl, rfl⟩) fun vs s4 ⟨o, H4, I4, ps, eo, e4⟩ => ?_
  subst eo e4
  have I5 : Inv X pins σ H4 { s4 with heap := s4.heap.push { cls := .type "slice", data := .fields #[vl, vu, vs] } } := I4.kept (t' := s4.toks) fun b ob q => Heap.get?_push_of_some _ q
  obtain ⟨its, r, ht, hz⟩ := I5.list hx
  have hlen := r.length
  show wpAny (model X.prog X.w) X.A (subscriptTail e (.Slice (some (.Constant (.int (lo : Int)) k p1)) none (some (.Constant (.int 2) j p2)) p3) (.ref a) (.ref s4.heap.objs.size)) (EP X pins σ Q) X.xe { s4 with heap := s4.heap.push { cls := .type "slice", data := .fields #[vl, vu, vs] } }
  refine tail_any (ops := [.ref a, .ref s4.heap.objs.size]) ht.isList.typeIs (PySem.slot_list_getitem.lookup) ?_ (by with_unfolding_all rfl)
  refine wpAny_getItem_list_slice ht.isList (Heap.IsSliceOf.new _ vl vu vs) pl pu ps (by decide) ?_ (by rw [List.size_toArray]; omega)
  rw [pick2 hlo (by omega)]
  refine ⟨.ref _, _, I5.laid (t' := s4.toks) (o := .lst (by2 lo xs)) (fun b ob q => Heap.get?_push_of_some _ q) (Nat.le_refl _) ?_, rfl, q _ (I5.hok.fresh (Nat.le_refl _))⟩
  exact ⟨Nat.le_trans (by2_len hlo) hz, _, 0, Vals.by2 r, Heap.get?_push_size _ rfl⟩
/-! ### [.. for i in range(lo, hi, c)] -/
theorem lc_rangeC {lo c : Int} {n : Nat} {g : TG} {tt : TT} {te : TE} {vs : List Nat} {σ : L2.St} {H1 : Hp} {D : Addr} {Qd : Hp → Prop} (Pv : Nat → Hp → Prop) (h0 : Pv 0 (upd H1 D (.lst [])))
    (hs : ∀ (i : Nat) H, i < n → Pv i H → g (.int (lo + (i : Nat) * c)) (wipe σ vs) H fun σ2 H2 => wipe σ2 vs = wipe σ vs ∧ tt σ2 H2 fun b H3 =>
      if b = true then te σ2 H3 fun y H4 => ∃ acc, H4 D = some (.lst acc) ∧ acc.length < sizeLine ∧ Pv (i + 1) (upd H4 D (.lst (acc ++ [y]))) else Pv (i + 1) H3) (hd : ∀ H, Pv n H → Qd H) :
    ∃ W : Nat → Nat → Hp → Prop, (∃ m, W 0 m (upd H1 D (.lst []))) ∧ ∀ i m H, W i m H →
      ((Itc lo c n).stop i H ∧ Qd H) ∨ ((Itc lo c n).go i H ∧ ∃ Nx : Hp → Prop, (∀ H', Nx H' → ∃ m', m' < m ∧ W (i + 1) m' H') ∧ ∀ x H', (Itc lo c n).yld i H x H' → g x (wipe σ vs) H' fun σ2 H2 => wipe σ2 vs = wipe σ vs ∧ tt σ2 H2 fun b H3 =>
        if b = true then te σ2 H3 fun y H4 => ∃ acc, H4 D = some (.lst acc) ∧ acc.length < sizeLine ∧ Nx (upd H4 D (.lst (acc ++ [y]))) else Nx H3) := by
  refine lc_it (I := Itc lo c n) (n := n) Pv h0 (fun i H hi p => hi) (fun H p => Nat.le_refl _) ?_ hd
  rintro i x H H' hi p ⟨e, y⟩
  subst e y
  exact hs i _ hi p
/-! ### shown data: one look -/
structure Sh (d : PyData) (n c : Nat) : Prop where
  s : d.showable = true
  dep : d.depth ≤ n
  c : cst d ≤ c
theorem shAll {α : Type} {f : α → PyData} {n c : Nat} : ∀ {xs : List α}, (∀ x ∈ xs, Sh (f x) n c) → PyData.showableAll (xs.map f) = true ∧ PyData.depthAll (xs.map f) ≤ n ∧ csts (xs.map f) ≤ (c + 4) * xs.length
  | [], _ => ⟨rfl, Nat.zero_le _, Nat.zero_le _⟩
  | x :: r, h => by
    obtain ⟨h1, h2, h3⟩ := shAll (xs := r) fun y hy => h y (List.mem_cons_of_mem _ hy)
    obtain ⟨g1, g2, g3⟩ := h x List.mem_cons_self
    refine ⟨?_, ?_, ?_⟩
    · simp only [List.map_cons, PyData.showableAll, g1, h1, Bool.and_self]
    · simp only [List.map_cons, PyData.depthAll]; omega
    · simp only [List.map_cons, csts, List.length_cons, Nat.mul_add, Nat.mul_one]; omega
theorem Sh.tup {α : Type} {f : α → PyData} {n c m k j : Nat} {xs : List α} (h : ∀ x ∈ xs, Sh (f x) n c) (hm : n + 1 ≤ m) (hl : xs.length ≤ j) (hk : (c + 4) * j + 4 ≤ k) : Sh (.tuple (xs.map f)) m k := by
  obtain ⟨h1, h2, h3⟩ := shAll h
  have h4 := Nat.mul_le_mul_left (c + 4) hl
  refine ⟨h1, ?_, ?_⟩
  · simp only [PyData.depth]; omega
  · show csts _ + 4 ≤ k; omega
theorem Sh.lst {α : Type} {f : α → PyData} {n c m k j : Nat} {xs : List α} (h : ∀ x ∈ xs, Sh (f x) n c) (hm : n + 1 ≤ m) (hl : xs.length ≤ j) (hk : (c + 4) * j + 4 ≤ k) : Sh (.list (xs.map f)) m k := by
  obtain ⟨h1, h2, h3⟩ := shAll h
  have h4 := Nat.mul_le_mul_left (c + 4) hl
  refine ⟨h1, ?_, ?_⟩
  · simp only [PyData.depth]; omega
  · show csts _ + 4 ≤ k; omega
theorem int_sh {i : Int} (h1 : -(10 ^ 100) ≤ i) (h2 : i ≤ 10 ^ 100) : Sh (.int i) 0 1921 := by
  refine ⟨?_, Nat.le_refl _, Nat.le_refl _⟩
  have : i.natAbs.log2 < 1920 := log_lt (by decide) (Nat.lt_of_le_of_lt (m := 10 ^ 100) (by omega) (by decide))
  simpa [PyData.showable] using this
theorem Sh.mono {d : PyData} {n c n' c' : Nat} (h : Sh d n c) (h1 : n ≤ n') (h2 : c ≤ c') : Sh d n' c' := ⟨h.s, Nat.le_trans h.dep h1, Nat.le_trans h.c h2⟩
theorem rep_ {K : PySem.W.Frag} {σ : L2.St} {H : Hp} {x : V} {d : PyData} {n c : Nat} {Q : VK} (hd : Dp K H x d) (s : Sh d n c) (hn : n ≤ 60 := by decide) (hc : c ≤ 10000000 := by decide) (q : Q (.str d.shown) H) :
    tNil σ H (fun xs H2 => (fun vs H1 => rRepr K vs H1 Q) (x :: xs) H2) :=
  ⟨x, d, rfl, hd, s.s, Nat.le_trans s.dep hn, shown_sz s.s (dp_noDict d x hd) (Nat.le_trans s.c hc), q⟩
theorem dps {α : Type} {K : PySem.W.Frag} {H : Hp} {g : α → V} {f : α → PyData} : ∀ {xs : List α}, (∀ x ∈ xs, Dp K H (g x) (f x)) → DpAll K H (xs.map g) (xs.map f)
  | [], _ => .nil
  | x :: r, h => .cons (h x List.mem_cons_self) (dps fun y hy => h y (List.mem_cons_of_mem _ hy))
/-! ### data: rows of numbers, grids, folds by a table -/
def iN (xs : List Nat) : List Int := xs.map fun n : Nat => (n : Int)
theorem iN_at {xs : List Nat} {j n : Nat} (h : xs[j]? = some n) : ((iN xs).map V.int)[j]? = some (.int (n : Nat)) := by
  unfold iN
  rw [List.getElem?_map, List.getElem?_map, h] <;> rfl
theorem iN_len {xs : List Nat} : ((iN xs).map V.int).length = xs.length := by unfold iN; rw [List.length_map, List.length_map]
theorem iN_snoc {xs : List Nat} {n : Nat} : (iN xs).map V.int ++ [.int (n : Nat)] = (iN (xs ++ [n])).map V.int := by unfold iN; rw [List.map_append, List.map_append] <;> rfl
theorem iN_app {xs ys : List Nat} : (iN xs).map V.int ++ (iN ys).map V.int = (iN (xs ++ ys)).map V.int := by unfold iN; rw [List.map_append, List.map_append]
theorem iN_mem {xs : List Nat} {y : V} {i : Nat} (h : ((iN xs).map V.int)[i]? = some y) : ∃ n : Nat, y = .int (n : Nat) ∧ xs[i]? = some n := by
  unfold iN at h
  rw [List.getElem?_map, List.getElem?_map] at h
  cases hx : xs[i]? with
  | none => rw [hx] at h; cases h
  | some n => rw [hx] at h; exact ⟨n, (Option.some.inj h).symm, rfl⟩
theorem getD_at {xs : List Nat} {j : Nat} (h : j < xs.length) : xs[j]? = some (xs.getD j 0) := by
  rw [List.getD_eq_getElem?_getD, List.getElem?_eq_getElem h] <;> rfl
theorem getD_mem {xs : List Nat} {j : Nat} (h : j < xs.length) : xs.getD j 0 ∈ xs := by
  rw [List.getD_eq_getElem?_getD, List.getElem?_eq_getElem h]
  exact List.getElem_mem h
theorem cut_to {xs : List V} (n : Nat) : cutV xs none (some (n : Int)) = xs.take n := by
  unfold cutV
  rw [HT.sIx_nat, HT.sIx_none, List.drop_zero, Nat.sub_zero]
  by_cases c : n ≤ xs.length
  · rw [Nat.min_eq_left c]
  · rw [Nat.min_eq_right (by omega), List.take_length, List.take_of_length_le (by omega)]
theorem cut_from {xs : List V} (n : Nat) : cutV xs (some (n : Int)) none = xs.drop n := by
  unfold cutV
  rw [HT.sIx_nat, HT.sIx_none]
  by_cases c : n ≤ xs.length
  · rw [Nat.min_eq_left c]
    exact List.take_of_length_le (by rw [List.length_drop]; omega)
  · rw [Nat.min_eq_right (by omega), Nat.sub_self, List.take_zero, List.drop_of_length_le (by omega)]
/-! ### data: toggles, merged -/
theorem by2_map {α β : Type} {lo : Nat} {f : α → β} {xs : List α} : by2 lo (xs.map f) = (by2 lo xs).map f := by
  unfold by2
  rw [List.length_map, List.map_filterMap]
  exact congrArg (fun g => List.filterMap g _) (funext fun i => by rw [List.getElem?_map])
theorem by2_is {lo : Nat} (hl : lo ≤ 1) {xs : List Nat} (h : xs.length % 2 = 0) : by2 lo xs = (List.range (xs.length / 2)).map fun i => xs.getD (lo + 2 * i) 0 := by
  unfold by2
  rw [← List.filterMap_eq_map]
  have key : ∀ l : List Nat, (∀ i ∈ l, i < xs.length / 2) → l.filterMap (fun i => xs[lo + 2 * i]?) = l.filterMap (some ∘ fun i => xs.getD (lo + 2 * i) 0) := by
    intro l hl2
    induction l with
    | nil => rfl
    | cons i l ih =>
      have h1 := hl2 i List.mem_cons_self
      have h2 : lo + 2 * i < xs.length := by omega
      rw [List.filterMap_cons, List.filterMap_cons, List.getElem?_eq_getElem h2, ih fun j hj => hl2 j (List.mem_cons_of_mem _ hj)]
      show xs[lo + 2 * i] :: _ = xs.getD (lo + 2 * i) 0 :: _
      rw [List.getD_eq_getElem?_getD, List.getElem?_eq_getElem h2] <;> rfl
  exact key _ fun i hi => List.mem_range.mp hi
theorem by2_half {lo : Nat} (hl : lo ≤ 1) {xs : List Nat} (h : xs.length % 2 = 0) : (by2 lo xs).length = xs.length / 2 := by rw [by2_is hl h, List.length_map, List.length_range]
def mgd : Nat → List Nat → List Nat → List (Nat × Nat) × List Nat
  | 0, a, b => ([(a.getD 0 0, b.getD 0 0)], [a.getD 0 0, b.getD 0 0])
  | n + 1, a, b => ((mgd n (by2 0 a) (by2 1 b)).1 ++ (mgd n (by2 1 a) (by2 0 b)).1 ++ (mgd n (by2 0 a) (by2 1 b)).2.zip (mgd n (by2 1 a) (by2 0 b)).2,
      ((mgd n (by2 0 a) (by2 1 b)).2.zip (mgd n (by2 1 a) (by2 0 b)).2).flatMap fun p => [p.1, p.2])
def fl (z : List (Nat × Nat)) : List Nat := z.flatMap fun p => [p.1, p.2]
theorem fl_len (z : List (Nat × Nat)) : (fl z).length = 2 * z.length := by
  induction z with
  | nil => rfl
  | cons p z ih =>
    show (p.1 :: p.2 :: fl z).length = _
    rw [List.length_cons, List.length_cons, ih, List.length_cons]; omega
theorem fl_snoc (z : List (Nat × Nat)) (p : Nat × Nat) : fl (z ++ [p]) = fl z ++ [p.1, p.2] := by unfold fl; rw [List.flatMap_append] <;> rfl
theorem two_pow_even (n : Nat) : 2 ^ (n + 1) % 2 = 0 ∧ 2 ^ (n + 1) / 2 = 2 ^ n := by rw [Nat.pow_succ]; omega
theorem mg_len : ∀ n {a b : List Nat}, a.length = 2 ^ n → b.length = 2 ^ n → (mgd n a b).2.length = 2 ^ (n + 1)
  | 0, _, _, _, _ => rfl
  | n + 1, a, b, ha, hb => by
    obtain ⟨e1, e2⟩ := two_pow_even n
    have h1 := mg_len n (a := by2 0 a) (b := by2 1 b) (by rw [by2_half (by decide) (by omega)]; omega) (by rw [by2_half (by decide) (by omega)]; omega)
    have h2 := mg_len n (a := by2 1 a) (b := by2 0 b) (by rw [by2_half (by decide) (by omega)]; omega) (by rw [by2_half (by decide) (by omega)]; omega)
    show (fl _).length = _
    rw [fl_len, List.length_zip, h1, h2, Nat.min_self, Nat.pow_succ _ (n + 1)]; omega
theorem mg_tog : ∀ n {a b : List Nat}, a.length = 2 ^ n → b.length = 2 ^ n → (mgd n a b).1.length = (n + 1) * 2 ^ n
  | 0, _, _, _, _ => rfl
  | n + 1, a, b, ha, hb => by
    obtain ⟨e1, e2⟩ := two_pow_even n
    have l1 : (by2 0 a).length = 2 ^ n := by rw [by2_half (by decide) (by omega)]; omega
    have l2 : (by2 1 b).length = 2 ^ n := by rw [by2_half (by decide) (by omega)]; omega
    have l3 : (by2 1 a).length = 2 ^ n := by rw [by2_half (by decide) (by omega)]; omega
    have l4 : (by2 0 b).length = 2 ^ n := by rw [by2_half (by decide) (by omega)]; omega
    show ((mgd n (by2 0 a) (by2 1 b)).1 ++ (mgd n (by2 1 a) (by2 0 b)).1 ++ (mgd n (by2 0 a) (by2 1 b)).2.zip (mgd n (by2 1 a) (by2 0 b)).2).length = _
    rw [List.length_append, List.length_append, List.length_zip, mg_tog n l1 l2, mg_tog n l3 l4, mg_len n l1 l2, mg_len n l3 l4, Nat.min_self]
    have e3 : 2 ^ (n + 1) = 2 * 2 ^ n := by rw [Nat.pow_succ]; omega
    rw [e3, show n + 1 + 1 = (n + 1) + 1 by rfl, Nat.add_mul (n + 1) 1, Nat.mul_left_comm (n + 1) 2]
    omega
/-- the whole net -/
def cl : Nat → List Nat → List (Nat × Nat) × List Nat
  | 0, ls => ([], ls)
  | n + 1, ls => ((cl n (ls.take (2 ^ n))).1 ++ (cl n (ls.drop (2 ^ n))).1 ++ (mgd n (cl n (ls.take (2 ^ n))).2 (cl n (ls.drop (2 ^ n))).2).1, (mgd n (cl n (ls.take (2 ^ n))).2 (cl n (ls.drop (2 ^ n))).2).2)
theorem cl_len : ∀ n {ls : List Nat}, ls.length = 2 ^ n → (cl n ls).2.length = 2 ^ n
  | 0, _, h => h
  | n + 1, ls, h => by
    have e3 : 2 ^ (n + 1) = 2 ^ n + 2 ^ n := by rw [Nat.pow_succ]; omega
    exact mg_len n (cl_len n (by rw [List.length_take]; omega)) (cl_len n (by rw [List.length_drop]; omega))
def PtsAt (H : Hp) (ts : List Addr) (ps : List (Nat × Nat)) : Prop := ts.length = ps.length ∧ ∀ (j : Nat) (t : Addr) (p : Nat × Nat), ts[j]? = some t → ps[j]? = some p → H t = some (.tup [.int (p.1 : Nat), .int (p.2 : Nat)])
theorem PtsAt.same {H H' : Hp} {ts : List Addr} {ps : List (Nat × Nat)} (e : Same H H') (h : PtsAt H ts ps) : PtsAt H' ts ps := ⟨h.1, fun j t p h1 h2 => e _ _ (h.2 j t p h1 h2)⟩
theorem PtsAt.app {H : Hp} {ts us : List Addr} {ps qs : List (Nat × Nat)} (a : PtsAt H ts ps) (b : PtsAt H us qs) : PtsAt H (ts ++ us) (ps ++ qs) := by
  refine ⟨by rw [List.length_append, List.length_append, a.1, b.1], fun j t p h1 h2 => ?_⟩
  by_cases c : j < ts.length
  · rw [List.getElem?_append_left c] at h1
    rw [List.getElem?_append_left (by rw [← a.1]; exact c)] at h2
    exact a.2 j t p h1 h2
  · rw [List.getElem?_append_right (by omega)] at h1
    rw [List.getElem?_append_right (by rw [← a.1]; omega)] at h2
    rw [← a.1] at h2
    exact b.2 _ t p h1 h2
theorem PtsAt.one {H : Hp} {t : Addr} {p : Nat × Nat} (h : H t = some (.tup [.int (p.1 : Nat), .int (p.2 : Nat)])) : PtsAt H [t] [p] := by
  refine ⟨rfl, fun j t' p' h1 h2 => ?_⟩
  cases j with
  | zero => cases (Option.some.inj h1); cases (Option.some.inj h2); exact h
  | succ j => simp at h1
theorem pts_of {H : Hp} {ts : List Addr} {u l : List Nat} (hl : ts.length = ((iN u).map V.int).length) (he : u.length = l.length) (h : PairsAt H ts ((iN u).map V.int) ((iN l).map V.int)) : PtsAt H ts (u.zip l) := by
  rw [iN_len] at hl
  refine ⟨by rw [List.length_zip, ← he, Nat.min_self, hl], fun j t p h1 h2 => ?_⟩
  obtain ⟨a, b⟩ := p
  obtain ⟨c1, c2⟩ := List.getElem?_zip_eq_some.mp h2
  exact h j t _ _ h1 (iN_at c1) (iN_at c2)
def PL (H : Hp) (L : Addr) (ps : List (Nat × Nat)) : Prop := ∃ ts : List Addr, H L = some (.lst (ts.map V.ref)) ∧ PtsAt H ts ps
theorem PL.same {H H' : Hp} {L : Addr} {ps : List (Nat × Nat)} (e : Same H H') (h : PL H L ps) : PL H' L ps := by
  obtain ⟨ts, h1, h2⟩ := h; exact ⟨ts, e _ _ h1, h2.same e⟩
def MgAt (H : Hp) (T : Addr) (r : List (Nat × Nat) × List Nat) : Prop := ∃ L1 L2 : Addr, H T = some (.tup [.ref L1, .ref L2]) ∧ PL H L1 r.1 ∧ H L2 = some (.lst ((iN r.2).map V.int))
/-! ### the pot: digits, and a number mixed on -/
def PotAt (H : Hp) (p : Addr) : Prop := ∃ a b : Int, H p = some (.lst [.int a, .int b]) ∧ 0 ≤ a ∧ 0 ≤ b ∧ b < 2 ^ 40
theorem PotAt.same {H H' : Hp} {p : Addr} (e : Same H H') (h : PotAt H p) : PotAt H' p := by
  obtain ⟨a, b, h1, h2⟩ := h; exact ⟨a, b, e _ _ h1, h2⟩
theorem pot_ne {H : Hp} {p a : Addr} (h : PotAt H p) (n : H a = none) : a ≠ p := fun z => by obtain ⟨_, _, h1, _⟩ := h; rw [← z, n] at h1; cases h1
theorem PotAt.upd {H : Hp} {p D : Addr} {o : HO} (n : p ≠ D) (h : PotAt H p) : PotAt (L2.upd H D o) p := by
  obtain ⟨a, b, h1, h2⟩ := h; exact ⟨a, b, by rw [upd_ne n]; exact h1, h2⟩
section
variable {P : Program} {w : World} {K : PySem.W.Frag} {mg : Str → Option Value} {base : Heap} (B : Bl K mg)
include B
/-! ### the program: small looks -/
def spIsWhole : Sp := fun vs H Q _ => ∃ i, vs = [.int i] ∧ Q (.bl true) H
theorem k_is_whole (D : Df K mg "is_whole" s_is_whole ["thing"]) : Dn P w K mg base 1 "is_whole" ["thing"] spIsWhole := by
  refine D.ok fun f fd F => okG0 F sc_is_whole (fun vs H Q E h => ?_) (fun cdv A outer s H vs Q E hr h => ⟨_, (pss_one (ps_ret (pe_and (pe_callB (kk (K := K) (F := rIsi) (P := CallR _ _) call_isi) (by rfl) B.isinstance_ (by decide +kernel) (pa_cons (pv 0) (pa_cons (pe_bltn (v := .ty "int") (u := .type "int") (by rfl) B.int_ (by decide +kernel) rfl) pa_nil))) (pe_one (pe_not (pe_callB (kk (K := K) (F := rIsi) (P := CallR _ _) call_isi) (by rfl) B.isinstance_ (by decide +kernel) (pa_cons (pv 0) (pa_cons (pe_bltn (v := .ty "bool") (u := .type "bool") (by rfl) B.bool_ (by decide +kernel) rfl) pa_nil)))))))), ?_⟩)
  · obtain ⟨i, rfl, _⟩ := h; rfl
  · obtain ⟨i, rfl, q⟩ := h
    refine ⟨_, rfl, _, _, _, _, _, rfl, .ty _, .base (.int _), kit_ty (b := "int") (r := true) (by decide +kernel), _, rfl, iteT ?_⟩
    refine ⟨_, rfl, _, _, _, _, _, rfl, .ty _, .base (.int _), kit_ty (b := "bool") (r := false) (by decide +kernel), _, rfl, ?_⟩
    exact q
def spIsWithin : Sp := fun vs H Q _ => ∃ i a b : Int, vs = [.int i, .int a, .int b] ∧ a ≤ i ∧ i ≤ b ∧ Q (.bl true) H
theorem k_is_within (D : Df K mg "is_within" s_is_within ["thing", "least", "most"]) (D_is_whole : Dn P w K mg base 1 "is_whole" ["thing"] spIsWhole) : Dn P w K mg base 2 "is_within" ["thing", "least", "most"] spIsWithin := by
  refine D.ok fun f fd F => okG0 F sc_is_within (fun vs H Q E h => ?_) (fun cdv A outer s H vs Q E hr h => ⟨_, (pss_one (ps_ret (pe_and (pe_cD D_is_whole (hr.less (by decide)) rfl (pa_cons (pv 0) pa_nil)) (pe_one (pe_chain op_le op_le (pv 1) (pv 0) (pv 2)))))), ?_⟩)
  · obtain ⟨i, a, b, rfl, _⟩ := h; rfl
  · obtain ⟨i, a, b, rfl, h1, h2, q⟩ := h
    refine ⟨_, rfl, i, rfl, _, rfl, iteT ?_⟩
    refine ⟨_, rfl, _, rfl, _, _, rfl, rfl, _, rfl, ifT (decide_eq_true h1) ⟨_, rfl, _, _, rfl, rfl, ?_⟩⟩
    exact (show Q (.bl (decide (i ≤ b))) H by rw [decide_eq_true h2]; exact q)
def spWantNet : Sp := fun vs H Q _ => ∃ i d : Int, vs = [.int i, .int d] ∧ 0 ≤ i ∧ i ≤ d ∧ Q .non H
theorem k_want_net (D : Dfd K mg "want_net" s_want_net ["k", "deepest"] []) (D_is_within : Dn P w K mg base 2 "is_within" ["thing", "least", "most"] spIsWithin) : DnD P w K mg base 3 "want_net" ["k", "deepest"] [] spWantNet := by
  refine D.ok fun f fd F => okG0A F sc_want_net (fun vs H Q E h => ?_) (fun cdv A outer s H vs Q E hr h => ⟨_, (pss_one (ps_if (pt_not (pt_val (pe_cD D_is_within (hr.less (by decide)) rfl (pa_cons (pv 0) (pa_cons pe_int (pa_cons (pv 1) pa_nil))))))
     (pss_one ps_never)
     pss_nil)), ?_⟩)
  · obtain ⟨i, d, rfl, _⟩ := h; rfl
  · obtain ⟨i, d, rfl, h1, h2, q⟩ := h
    exact ⟨_, rfl, _, rfl, i, 0, d, rfl, h1, h2, _, rfl, iteF q⟩
omit B in
theorem shl_eq (k : Nat) : (1 * 2 ^ ((k : Int)).toNat : Int) = ((2 ^ k : Nat) : Int) := by rw [Int.toNat_natCast, Int.one_mul]; push_cast; rfl
omit B in
theorem shr_eq (k m : Nat) : ((m : Int) / 2 ^ ((k : Int)).toNat : Int) = ((m / 2 ^ k : Nat) : Int) := by rw [Int.toNat_natCast]; push_cast; rfl
omit B in
theorem mul_eq (k m : Nat) : ((m : Int) * 2 ^ ((k : Int)).toNat : Int) = ((m * 2 ^ k : Nat) : Int) := by rw [Int.toNat_natCast]; push_cast; rfl
omit B in
theorem xor_eq (a b : Nat) : Builtin.bitXor (a : Int) (b : Int) = ((a ^^^ b : Nat) : Int) := by rw [Bits.bitXor_pp (by omega) (by omega), Int.toNat_natCast, Int.toNat_natCast]
omit B in
theorem bits_one : Builtin.Int.intBits 1 ≤ 10 := by decide +kernel
omit B in
theorem shl_ok {n : Nat} (h : n ≤ 1000) : CShl 1 (n : Int) := by
  have := bits_one
  exact ⟨by omega, by omega⟩
omit B in
theorem shl_mid {i j : Int} (h : i.natAbs < 2 ^ 400) (h0 : 0 ≤ j) (h1 : j ≤ 1000) : CShl i j := by
  refine ⟨h0, ?_⟩
  have h2 := log_lt (n := 400) (by decide) h
  unfold Builtin.Int.intBits
  split <;> omega
omit B in
theorem mask_eq (k m : Nat) : Builtin.bitAnd (m : Int) (1 * 2 ^ ((k : Int)).toNat - 1) = ((m % 2 ^ k : Nat) : Int) := by
  rw [Int.toNat_natCast, Int.one_mul, Bits.bitAnd_mask k (by omega)]
  push_cast; rfl
/-! ### the program: the counting net -/
def spMerged (K : PySem.W.Frag) (n : Nat) : Sp := fun vs H Q _ => ∃ (o1 o2 : Addr) (a b : List Nat) (m : Nat), vs = [.ref o1, .ref o2] ∧ H o1 = some (.lst ((iN a).map V.int)) ∧ H o2 = some (.lst ((iN b).map V.int)) ∧ a.length = 2 ^ m ∧ b.length = 2 ^ m ∧ m < n ∧ m ≤ 3 ∧ ∀ T H', Same H H' → MgAt H' T (mgd m a b) → Q (.ref T) H'
theorem merged_z (vs : List V) (H : Hp) (Q : VK) (E : XK) : ¬ spMerged K 0 vs H Q E := by
  rintro ⟨o1, o2, a, b, m, _, _, _, _, _, h, _⟩
  omega
theorem k_merged_rec (D : Df K mg "merged" s_merged ["one", "other"]) : ∀ n : Nat, Dn P w K mg base (1 + n) "merged" ["one", "other"] ((spMerged K) n) := by
  intro n
  induction n with
  | zero => exact D.ok fun f fd F => ⟨fun vs H Q E h => (merged_z B vs H Q E h).elim, fun _ _ _ _ h => (merged_z B _ _ _ _ h).elim⟩
  | succ n D_merged =>
    refine D.ok fun f fd F => okG0 (k := 1 + n) F sc_merged (fun vs H Q E h => ?_) (fun cdv A outer s H vs Q E hr h => ⟨_, (pss_cons (ps_if (pt_cmpR op_eq (pe_callB (lenK (K := K)) (by rfl) B.len_ (by decide +kernel) (pa_cons (pv 0) pa_nil)) pe_int (nomark _))
      (pss_one (ps_ret (pe_tup (pa_cons (pe_lst (pa_cons (pe_tup (pa_cons (pe_ix (kk (K := K) (F := rIxL) (P := IxR _) ix_list) (pv 0) pe_int (fun _ _ => rfl)) (pa_cons (pe_ix (kk (K := K) (F := rIxL) (P := IxR _) ix_list) (pv 1) pe_int (fun _ _ => rfl)) pa_nil))) pa_nil)) (pa_cons (pe_lst (pa_cons (pe_ix (kk (K := K) (F := rIxL) (P := IxR _) ix_list) (pv 0) pe_int (fun _ _ => rfl)) (pa_cons (pe_ix (kk (K := K) (F := rIxL) (P := IxR _) ix_list) (pv 1) pe_int (fun _ _ => rfl)) pa_nil))) pa_nil)))))
      pss_nil)
    (pss_cons (ps_asg (pe_cD D_merged (hr.less (by omega)) rfl (pa_cons (kk (K := K) (F := fun K => tStep K 0 _) (P := PE _ _) (pe_step2 (lo := 0) (by decide) rfl (pv 0))) (pa_cons (kk (K := K) (F := fun K => tStep K 1 _) (P := PE _ _) (pe_step2 (lo := 1) (by decide) rfl (pv 1))) pa_nil))) (kk (K := K) (F := fun K => gTup K 2 _) (P := PG _ _) (pg_tup rfl (pgs_cons (pg_name (i := 2) sc_merged.nd rfl (Or.inl rfl)) (pgs_cons (pg_name (i := 3) sc_merged.nd rfl (Or.inl rfl)) pgs_nil)))))
    (pss_cons (ps_asg (pe_cD D_merged (hr.less (by omega)) rfl (pa_cons (kk (K := K) (F := fun K => tStep K 1 _) (P := PE _ _) (pe_step2 (lo := 1) (by decide) rfl (pv 0))) (pa_cons (kk (K := K) (F := fun K => tStep K 0 _) (P := PE _ _) (pe_step2 (lo := 0) (by decide) rfl (pv 1))) pa_nil))) (kk (K := K) (F := fun K => gTup K 2 _) (P := PG _ _) (pg_tup rfl (pgs_cons (pg_name (i := 4) sc_merged.nd rfl (Or.inl rfl)) (pgs_cons (pg_name (i := 5) sc_merged.nd rfl (Or.inl rfl)) pgs_nil)))))
    (pss_cons (ps_set (i := 6) sc_merged.nd rfl (Or.inl rfl) (kk (K := K) (F := fun K => tListZip K _) (P := PE _ _) (pe_listZip rfl (by rfl) B.list_ (by rfl) B.zip_ (pa_cons (pv 3) (pa_cons (pv 5) pa_nil)))))
    (pss_cons (ps_set (i := 7) sc_merged.nd rfl (Or.inl rfl) (pe_lst pa_nil))
    (pss_cons (ps_for PassesOwn.never rfl (kk (K := K) (F := fun K => iList K _) (P := PI _ _ _) (pi_list (pv 6))) (pg_name (i := 8) sc_merged.nd rfl (Or.inl rfl))
      (pss_one (ps_expr (kk (K := K) (F := fun K => tBM K "list" _ _ _) (P := PE _ _) (pe_bm PySem.F.plainAttrs_list PySem.F.slot_list_extend PySem.F.type_list_extend mt_extend (pv 7) (pa_cons (pe_callTy (lstOfK (K := K)) (by rfl) B.list_ (by decide +kernel) (pa_cons (pv 8) pa_nil)) pa_nil))))))
    (pss_one (ps_ret (pe_tup (pa_cons (pe_op op_cat (pe_op op_cat (pv 2) (pv 4)) (pv 6)) (pa_cons (pv 7) pa_nil))))))))))), ?_⟩)
    · obtain ⟨o1, o2, a, b, m, rfl, _⟩ := h; rfl
    · obtain ⟨o1, o2, a, b, m, rfl, h1, h2, la, lb, hm, h3, q⟩ := h
      refine ⟨_, rfl, o1, _, rfl, .inl (SqL.of h1), rfl, _, rfl, ite2 (fun c => ?_) (fun c => ?_)⟩
      · have hm0 : m = 0 := by
          have e := V.int.inj (of_decide_eq_true c)
          rw [iN_len, la] at e
          rcases Nat.eq_zero_or_pos m with e2 | e2
          · exact e2
          · have := Nat.one_lt_two_pow (n := m) (by omega); omega
        subst hm0
        have la' : a.length = 1 := la
        have lb' : b.length = 1 := lb
        have ga : a[0]? = some (a.getD 0 0) := getD_at (by omega)
        have gb : b[0]? = some (b.getD 0 0) := getD_at (by omega)
        refine ⟨_, rfl, o1, _, _, _, rfl, rfl, SqL.of h1, at_of (j := 0) rfl (iN_at ga), _, rfl, o2, _, _, _, rfl, rfl, SqL.of h2, at_of (j := 0) rfl (iN_at gb), sz, fun t ht => ⟨sz, fun L1 hL1 => ?_⟩⟩
        have S1 := same_new ht (.tup [.int (a.getD 0 0 : Nat), .int (b.getD 0 0 : Nat)])
        have S2 := same_new hL1 (.lst [.ref t])
        have S12 := S1.trans S2
        refine ⟨_, rfl, o1, _, _, _, rfl, rfl, SqL.of (S12 _ _ h1), at_of (j := 0) rfl (iN_at ga), _, rfl, o2, _, _, _, rfl, rfl, SqL.of (S12 _ _ h2), at_of (j := 0) rfl (iN_at gb), sz, fun L2 hL2 => ⟨sz, fun T hT => ?_⟩⟩
        have S3 := same_new hL2 (.lst [.int (a.getD 0 0 : Nat), .int (b.getD 0 0 : Nat)])
        have S4 := same_new hT (.tup [.ref L1, .ref L2])
        have S34 := S3.trans S4
        exact q T _ (S12.trans S34) ⟨L1, L2, upd_same, ⟨[t], S34 _ _ upd_same, PtsAt.one (S34 _ _ (S2 _ _ upd_same))⟩, S4 _ _ upd_same⟩
      · obtain ⟨k, rfl⟩ : ∃ k, m = k + 1 := by
          rcases Nat.eq_zero_or_pos m with e2 | e2
          · subst e2
            exact absurd (decide_eq_true (by rw [iN_len, la] <;> rfl)) c
          · exact ⟨m - 1, by omega⟩
        obtain ⟨e1, e2⟩ := two_pow_even k
        have l1 : (by2 0 a).length = 2 ^ k := by rw [by2_half (by decide) (by omega)]; omega
        have l2 : (by2 1 b).length = 2 ^ k := by rw [by2_half (by decide) (by omega)]; omega
        have l3 : (by2 1 a).length = 2 ^ k := by rw [by2_half (by decide) (by omega)]; omega
        have l4 : (by2 0 b).length = 2 ^ k := by rw [by2_half (by decide) (by omega)]; omega
        have ev1 : ((iN a).map V.int).length % 2 = 0 := by rw [iN_len]; omega
        have ev2 : ((iN b).map V.int).length % 2 = 0 := by rw [iN_len]; omega
        have bm : ∀ (lo : Nat) (x : List Nat), by2 lo ((iN x).map V.int) = (iN (by2 lo x)).map V.int := fun lo x => by unfold iN; rw [by2_map, by2_map]
        refine ⟨_, rfl, o1, _, rfl, SqL.of h1, ev1, fun p1 hp1 => ?_⟩
        have S1 := same_new hp1 (.lst (by2 0 ((iN a).map V.int)))
        refine ⟨_, rfl, o2, _, rfl, SqL.of (S1 _ _ h2), ev2, fun p2 hp2 => ?_⟩
        have S2 := same_new hp2 (.lst (by2 1 ((iN b).map V.int)))
        refine ⟨p1, p2, by2 0 a, by2 1 b, k, rfl, by rw [← bm]; exact S2 _ _ upd_same, by rw [← bm]; exact upd_same, l1, l2, by omega, by omega, fun T1 H1 S3 hT1 => ?_⟩
        obtain ⟨L1, U1, hT1, hL1, hU1⟩ := hT1
        have S13 := S1.trans (S2.trans S3)
        clear S1 S2 S3 hp1 hp2
        refine ⟨T1, _, rfl, SqT.of hT1, rfl, _, _, rfl, _, _, rfl, rfl, ?_⟩
        refine ⟨_, rfl, o1, _, rfl, SqL.of (S13 _ _ h1), ev1, fun p1 hp1 => ?_⟩
        have S4 := same_new hp1 (.lst (by2 1 ((iN a).map V.int)))
        refine ⟨_, rfl, o2, _, rfl, SqL.of (S4 _ _ (S13 _ _ h2)), ev2, fun p2 hp2 => ?_⟩
        have S5 := same_new hp2 (.lst (by2 0 ((iN b).map V.int)))
        refine ⟨p1, p2, by2 1 a, by2 0 b, k, rfl, by rw [← bm]; exact S5 _ _ upd_same, by rw [← bm]; exact upd_same, l3, l4, by omega, by omega, fun T2 H2 S6 hT2 => ?_⟩
        obtain ⟨L2, U2, hT2, hL2, hU2⟩ := hT2
        have S46 := S4.trans (S5.trans S6)
        clear S4 S5 S6 hp1 hp2
        refine ⟨T2, _, rfl, SqT.of hT2, rfl, _, _, rfl, _, _, rfl, rfl, ?_⟩
        have hL1' := hL1.same S46
        have hU1' := S46 _ _ hU1
        have g1 := mg_len k l1 l2
        have g2 := mg_len k l3 l4
        have t1 := mg_tog k l1 l2
        have t2 := mg_tog k l3 l4
        have hk16 : 2 ^ (k + 1) ≤ 2 ^ 3 := Nat.pow_le_pow_right (by decide) (by omega)
        have hkm : (k + 1) * 2 ^ k ≤ 3 * 2 ^ 2 := Nat.mul_le_mul (by omega) (Nat.pow_le_pow_right (by decide) (by omega))
        have S16 := S13.trans S46
        have hmg : mgd (k + 1) a b = ((mgd k (by2 0 a) (by2 1 b)).1 ++ (mgd k (by2 1 a) (by2 0 b)).1 ++ (mgd k (by2 0 a) (by2 1 b)).2.zip (mgd k (by2 1 a) (by2 0 b)).2, fl ((mgd k (by2 0 a) (by2 1 b)).2.zip (mgd k (by2 1 a) (by2 0 b)).2)) := rfl
        rw [hmg] at q
        clear hmg hL1 hU1 hT1 hT2
        generalize mgd k (by2 0 a) (by2 1 b) = x at *
        generalize mgd k (by2 1 a) (by2 0 b) = y at *
        obtain ⟨x1, x2⟩ := x
        obtain ⟨y1, y2⟩ := y
        have g1' : x2.length = 2 ^ (k + 1) := g1
        have g2' : y2.length = 2 ^ (k + 1) := g2
        refine ⟨_, rfl, _, rfl, U1, U2, _, _, rfl, SqL.of hU1', SqL.of hU2, by rw [iN_len, iN_len, g1, g2], by rw [iN_len]; show x2.length ≤ 1000; omega, fun S ts H3 S7 hfr hS hls hps => ?_⟩
        have hpt := pts_of hls (by show x2.length = y2.length; omega) hps
        have zl : (x2.zip y2).length = 2 ^ (k + 1) := by rw [List.length_zip]; show min x2.length y2.length = _; omega
        generalize x2.zip y2 = z at hpt zl q
        refine ⟨sz, fun R hR => ?_⟩
        have S8 := same_new hR (.lst [])
        have hS8 := S8 _ _ hS
        refine ⟨_, rfl, S, rfl, ⟨_, SqL.of hS8⟩, ?_⟩
        refine for_list (K := K) (a := S) (xs := ts.map V.ref) (fun i σ H4 => ∃ v8 : Option V, σ = [some (.ref o1), some (.ref o2), some (.ref L1), some (.ref U1), some (.ref L2), some (.ref U2), some (.ref S), some (.ref R), v8] ∧ Same H3 H4 ∧ H4 R = some (.lst ((iN (fl (z.take i))).map V.int))) ⟨none, rfl, S8, upd_same⟩ (fun i σ H4 _ h => by obtain ⟨_, _, h2, _⟩ := h; exact SqL.of (h2 _ _ hS)) ?_ ?_
        · rintro i w σ H4 hi ⟨v8, rfl, S9, hR4⟩
          rw [List.getElem?_map] at hi
          obtain ⟨t, ht, rfl⟩ := Option.map_eq_some_iff.mp hi
          have hil := (List.getElem?_eq_some_iff.mp ht).1
          have hil2 : i < z.length := by rw [← hpt.1]; exact hil
          have htp := S9 _ _ (hpt.2 i t z[i] ht (List.getElem?_eq_getElem hil2))
          refine ⟨_, rfl, .inl ⟨rfl, _, SqL.of hR4⟩, _, rfl, t, _, rfl, .inr (SqT.of htp), fun b hb => ?_⟩
          have S10 := same_new hb (.lst [.int (z[i].1 : Nat), .int (z[i].2 : Nat)])
          have nRb : R ≠ b := ne_of_none hR4 hb
          refine ⟨R, b, _, _, rfl, rfl, by rw [upd_ne nRb]; exact hR4, upd_same, small (by rw [iN_len, fl_len, List.length_take]; show 2 * min i z.length + 2 ≤ 1000; omega), ?_⟩
          refine ⟨_, rfl, but_same hR (S9.trans S10) But.upd, ?_⟩
          rw [upd_same, List.take_succ, List.getElem?_eq_getElem hil2]
          show _ = some (HO.lst ((iN (fl (z.take i ++ [z[i]]))).map V.int))
          rw [fl_snoc]
          unfold iN
          rw [List.map_append, List.map_append] <;> rfl
        · rintro σ H4 ⟨v8, rfl, S9, hR4⟩
          rw [List.length_map, hpt.1, List.take_length] at hR4
          have S39 := S7.trans S9
          obtain ⟨t1s, hL1a, hL1b⟩ := hL1'.same S39
          obtain ⟨t2s, hL2a, hL2b⟩ := hL2.same S39
          have c1 : t1s.length = x1.length := hL1b.1
          have c2 : t2s.length = y1.length := hL2b.1
          have c1' : x1.length = (k + 1) * 2 ^ k := t1
          have c2' : y1.length = (k + 1) * 2 ^ k := t2
          refine ⟨_, rfl, _, rfl, L1, L2, _, _, rfl, rfl, hL1a, hL2a, small (by rw [List.length_map, List.length_map]; omega), fun L hL => ?_⟩
          have S10 := same_new hL (.lst (t1s.map V.ref ++ t2s.map V.ref))
          refine ⟨_, rfl, L, S, _, _, rfl, rfl, upd_same, S10 _ _ (S9 _ _ hS), small (by rw [List.length_append, List.length_map, List.length_map, List.length_map]; have := hpt.1; omega), fun M hM => ?_⟩
          have S11 := same_new hM (.lst ((t1s.map V.ref ++ t2s.map V.ref) ++ ts.map V.ref))
          refine ⟨_, rfl, sz, fun T hT => ?_⟩
          have S12 := same_new hT (.tup [.ref M, .ref R])
          have S1112 := S11.trans S12
          have S1012 := S10.trans S1112
          refine q T _ (S16.trans (S39.trans S1012)) ⟨M, R, upd_same, ⟨t1s ++ t2s ++ ts, ?_, ((hL1b.same S1012).app (hL2b.same S1012)).app (hpt.same (S9.trans S1012))⟩, S1012 _ _ hR4⟩
          rw [S12 _ _ upd_same, List.map_append, List.map_append]
theorem k_merged (D : Df K mg "merged" s_merged ["one", "other"]) : Dn P w K mg base 5 "merged" ["one", "other"] ((spMerged K) 4) := k_merged_rec B D  4
def spCl (K : PySem.W.Frag) (n : Nat) : Sp := fun vs H Q _ => ∃ (o : Addr) (ls : List Nat) (m : Nat), vs = [.ref o] ∧ H o = some (.lst ((iN ls).map V.int)) ∧ ls.length = 2 ^ m ∧ m < n ∧ m ≤ 3 ∧ ∀ T H', Same H H' → MgAt H' T (cl m ls) → Q (.ref T) H'
theorem counted_lines_z (vs : List V) (H : Hp) (Q : VK) (E : XK) : ¬ spCl K 0 vs H Q E := by
  rintro ⟨o, ls, m, _, _, _, h, _⟩
  omega
omit B in
theorem cl_tog : ∀ m, m ≤ 3 → ∀ {ls : List Nat}, ls.length = 2 ^ m → (cl m ls).1.length ≤ 100 := by
  have h0 : ∀ {ls : List Nat}, ls.length = 2 ^ 0 → (cl 0 ls).1.length ≤ 0 := fun _ => Nat.le_refl _
  have up : ∀ m b, m ≤ 2 → (∀ {ls : List Nat}, ls.length = 2 ^ m → (cl m ls).1.length ≤ b) → ∀ {ls : List Nat}, ls.length = 2 ^ (m + 1) → (cl (m + 1) ls).1.length ≤ 2 * b + 12 := by
    intro m b hm ih ls hl
    have e3 : 2 ^ (m + 1) = 2 ^ m + 2 ^ m := by rw [Nat.pow_succ]; omega
    have a1 : (ls.take (2 ^ m)).length = 2 ^ m := by rw [List.length_take]; omega
    have a2 : (ls.drop (2 ^ m)).length = 2 ^ m := by rw [List.length_drop]; omega
    have i1 := ih a1
    have i2 := ih a2
    have hkm : (m + 1) * 2 ^ m ≤ 3 * 2 ^ 2 := Nat.mul_le_mul (by omega) (Nat.pow_le_pow_right (by decide) (by omega))
    show (_ ++ _ ++ _ : List (Nat × Nat)).length ≤ _
    rw [List.length_append, List.length_append, mg_tog m (cl_len m a1) (cl_len m a2)]
    omega
  intro m hm
  obtain rfl | rfl | rfl | rfl : m = 0 ∨ m = 1 ∨ m = 2 ∨ m = 3 := by omega
  · exact fun hl => Nat.le_trans (h0 hl) (by decide)
  · exact fun hl => Nat.le_trans (up 0 0 (by decide) h0 hl) (by decide)
  · exact fun hl => Nat.le_trans (up 1 12 (by decide) (up 0 0 (by decide) h0) hl) (by decide)
  · exact fun hl => Nat.le_trans (up 2 36 (by decide) (up 1 12 (by decide) (up 0 0 (by decide) h0)) hl) (by decide)
theorem k_counted_lines_rec (D : Df K mg "counted_lines" s_counted_lines ["lines"]) (D_merged : Dn P w K mg base 5 "merged" ["one", "other"] ((spMerged K) 4)) : ∀ n : Nat, Dn P w K mg base (6 + n) "counted_lines" ["lines"] ((spCl K) n) := by
  intro n
  induction n with
  | zero => exact D.ok fun f fd F => ⟨fun vs H Q E h => (counted_lines_z B vs H Q E h).elim, fun _ _ _ _ h => (counted_lines_z B _ _ _ _ h).elim⟩
  | succ n D_counted_lines =>
    refine D.ok fun f fd F => okG0 (k := 6 + n) F sc_counted_lines (fun vs H Q E h => ?_) (fun cdv A outer s H vs Q E hr h => ⟨_, (pss_cons (ps_if (pt_cmpR op_eq (pe_callB (lenK (K := K)) (by rfl) B.len_ (by decide +kernel) (pa_cons (pv 0) pa_nil)) pe_int (nomark _))
      (pss_one (ps_ret (pe_tup (pa_cons (pe_lst pa_nil) (pa_cons (pv 0) pa_nil)))))
      pss_nil)
    (pss_cons (ps_set (i := 1) sc_counted_lines.nd rfl (Or.inl rfl) (pe_op op_fdivW (pe_callB (lenK (K := K)) (by rfl) B.len_ (by decide +kernel) (pa_cons (pv 0) pa_nil)) pe_int))
    (pss_cons (ps_asg (pe_cD D_counted_lines (hr.less (by omega)) rfl (pa_cons (pe_slice (kk (K := K) (F := rSlL) (P := L2.SlR _) sl_list) (pv 0) po_none (po_some (pv 1))) pa_nil)) (kk (K := K) (F := fun K => gTup K 2 _) (P := PG _ _) (pg_tup rfl (pgs_cons (pg_name (i := 2) sc_counted_lines.nd rfl (Or.inl rfl)) (pgs_cons (pg_name (i := 3) sc_counted_lines.nd rfl (Or.inl rfl)) pgs_nil)))))
    (pss_cons (ps_asg (pe_cD D_counted_lines (hr.less (by omega)) rfl (pa_cons (pe_slice (kk (K := K) (F := rSlL) (P := L2.SlR _) sl_list) (pv 0) (po_some (pv 1)) po_none) pa_nil)) (kk (K := K) (F := fun K => gTup K 2 _) (P := PG _ _) (pg_tup rfl (pgs_cons (pg_name (i := 4) sc_counted_lines.nd rfl (Or.inl rfl)) (pgs_cons (pg_name (i := 5) sc_counted_lines.nd rfl (Or.inl rfl)) pgs_nil)))))
    (pss_cons (ps_asg (pe_cD D_merged (hr.less (by omega)) rfl (pa_cons (pv 3) (pa_cons (pv 5) pa_nil))) (kk (K := K) (F := fun K => gTup K 2 _) (P := PG _ _) (pg_tup rfl (pgs_cons (pg_name (i := 6) sc_counted_lines.nd rfl (Or.inl rfl)) (pgs_cons (pg_name (i := 7) sc_counted_lines.nd rfl (Or.inl rfl)) pgs_nil)))))
    (pss_one (ps_ret (pe_tup (pa_cons (pe_op op_cat (pe_op op_cat (pv 2) (pv 4)) (pv 6)) (pa_cons (pv 7) pa_nil)))))))))), ?_⟩)
    · obtain ⟨o, ls, m, rfl, _⟩ := h; rfl
    · obtain ⟨o, ls, m, rfl, h1, la, hm, h3, q⟩ := h
      refine ⟨_, rfl, o, _, rfl, .inl (SqL.of h1), rfl, _, rfl, ite2 (fun c => ?_) (fun c => ?_)⟩
      · have hm0 : m = 0 := by
          have e := V.int.inj (of_decide_eq_true c)
          rw [iN_len, la] at e
          rcases Nat.eq_zero_or_pos m with e2 | e2
          · exact e2
          · have := Nat.one_lt_two_pow (n := m) (by omega); omega
        subst hm0
        refine ⟨sz, fun L1 hL1 => ⟨_, rfl, sz, fun T hT => ?_⟩⟩
        have S1 := same_new hL1 (.lst [])
        have S2 := same_new hT (.tup [.ref L1, .ref o])
        exact q T _ (S1.trans S2) ⟨L1, o, upd_same, ⟨[], S2 _ _ upd_same, rfl, fun j t p h => by simp at h⟩, S2 _ _ (S1 _ _ h1)⟩
      · obtain ⟨k, rfl⟩ : ∃ k, m = k + 1 := by
          rcases Nat.eq_zero_or_pos m with e2 | e2
          · subst e2
            exact absurd (decide_eq_true (by rw [iN_len, la] <;> rfl)) c
          · exact ⟨m - 1, by omega⟩
        obtain ⟨e1, e2⟩ := two_pow_even k
        have e3 : 2 ^ (k + 1) = 2 ^ k + 2 ^ k := by rw [Nat.pow_succ]; omega
        have eh : ((((iN ls).map V.int).length : Nat) : Int) / 2 = ((2 ^ k : Nat) : Int) := by rw [iN_len, la]; omega
        have a1 : (ls.take (2 ^ k)).length = 2 ^ k := by rw [List.length_take]; omega
        have a2 : (ls.drop (2 ^ k)).length = 2 ^ k := by rw [List.length_drop]; omega
        have ct : cutV ((iN ls).map V.int) none (some (((((iN ls).map V.int).length : Nat) : Int) / 2)) = (iN (ls.take (2 ^ k))).map V.int := by
          rw [eh, cut_to]; unfold iN; rw [List.map_take, List.map_take]
        have cf : cutV ((iN ls).map V.int) (some (((((iN ls).map V.int).length : Nat) : Int) / 2)) none = (iN (ls.drop (2 ^ k))).map V.int := by
          rw [eh, cut_from]; unfold iN; rw [List.map_drop, List.map_drop]
        refine ⟨_, rfl, o, _, rfl, .inl (SqL.of h1), _, _, rfl, rfl, ⟨by decide, by decide⟩, ?_⟩
        refine ⟨_, rfl, _, rfl, _, rfl, o, _, rfl, SqL.of h1, fun p1 hp1 => ?_⟩
        have S1 := same_new hp1 (.lst (cutV ((iN ls).map V.int) none (some (((((iN ls).map V.int).length : Nat) : Int) / 2))))
        refine ⟨p1, ls.take (2 ^ k), k, rfl, by rw [upd_same, ← ct], a1, by omega, by omega, fun T1 H1 S2 hT1 => ?_⟩
        obtain ⟨L1, U1, hT1, hL1, hU1⟩ := hT1
        have S12 := S1.trans S2
        clear S1 S2 hp1
        refine ⟨T1, _, rfl, SqT.of hT1, rfl, _, _, rfl, _, _, rfl, rfl, ?_⟩
        refine ⟨_, rfl, _, rfl, _, rfl, o, _, rfl, SqL.of (S12 _ _ h1), fun p2 hp2 => ?_⟩
        have S3 := same_new hp2 (.lst (cutV ((iN ls).map V.int) (some (((((iN ls).map V.int).length : Nat) : Int) / 2)) none))
        refine ⟨p2, ls.drop (2 ^ k), k, rfl, by rw [upd_same, ← cf], a2, by omega, by omega, fun T2 H2 S4 hT2 => ?_⟩
        obtain ⟨L2, U2, hT2, hL2, hU2⟩ := hT2
        have S34 := S3.trans S4
        clear S3 S4 hp2
        refine ⟨T2, _, rfl, SqT.of hT2, rfl, _, _, rfl, _, _, rfl, rfl, ?_⟩
        refine ⟨_, rfl, _, rfl, U1, U2, _, _, k, rfl, S34 _ _ hU1, hU2, cl_len k a1, cl_len k a2, by omega, by omega, fun T3 H3 S5 hT3 => ?_⟩
        obtain ⟨L3, U3, hT3, hL3, hU3⟩ := hT3
        refine ⟨T3, _, rfl, SqT.of hT3, rfl, _, _, rfl, _, _, rfl, rfl, ?_⟩
        obtain ⟨t1s, hL1a, hL1b⟩ := (hL1.same S34).same S5
        obtain ⟨t2s, hL2a, hL2b⟩ := hL2.same S5
        obtain ⟨t3s, hL3a, hL3b⟩ := hL3
        have c1 := hL1b.1
        have c2 := hL2b.1
        have c3 := hL3b.1
        have d1 := cl_tog k (by omega) a1
        have d2 := cl_tog k (by omega) a2
        have d3 := mg_tog k (cl_len k a1) (cl_len k a2)
        have hkm : (k + 1) * 2 ^ k ≤ 3 * 2 ^ 2 := Nat.mul_le_mul (by omega) (Nat.pow_le_pow_right (by decide) (by omega))
        refine ⟨_, rfl, _, rfl, L1, L2, _, _, rfl, rfl, hL1a, hL2a, small (by rw [List.length_map, List.length_map]; omega), fun L hL => ?_⟩
        have S6 := same_new hL (.lst (t1s.map V.ref ++ t2s.map V.ref))
        refine ⟨_, rfl, L, L3, _, _, rfl, rfl, upd_same, S6 _ _ hL3a, small (by rw [List.length_append, List.length_map, List.length_map, List.length_map]; omega), fun M hM => ?_⟩
        have S7 := same_new hM (.lst ((t1s.map V.ref ++ t2s.map V.ref) ++ t3s.map V.ref))
        refine ⟨_, rfl, sz, fun T hT => ?_⟩
        have S8 := same_new hT (.tup [.ref M, .ref U3])
        have S68 := S6.trans (S7.trans S8)
        refine q T _ (S12.trans (S34.trans (S5.trans S68))) ⟨M, U3, upd_same, ⟨t1s ++ t2s ++ t3s, ?_, ((hL1b.same S68).app (hL2b.same S68)).app (hL3b.same S68)⟩, S68 _ _ hU3⟩
        rw [S8 _ _ upd_same, List.map_append, List.map_append]
theorem k_counted_lines (D : Df K mg "counted_lines" s_counted_lines ["lines"]) (D_merged : Dn P w K mg base 5 "merged" ["one", "other"] ((spMerged K) 4)) : Dn P w K mg base 10 "counted_lines" ["lines"] ((spCl K) 4) := k_counted_lines_rec B D D_merged 4
def spNet (K : PySem.W.Frag) : Sp := fun vs H Q _ => ∃ k : Nat, vs = [.int k] ∧ k ≤ 3 ∧ ∀ T H', Same H H' → MgAt H' T (cl k (List.range (2 ^ k))) → Q (.ref T) H'
theorem k_counting_net (D : Df K mg "counting_net" s_counting_net ["k"]) (D_want_net : DnD P w K mg base 3 "want_net" ["k", "deepest"] [] spWantNet) (D_counted_lines : Dn P w K mg base 10 "counted_lines" ["lines"] ((spCl K) 4)) : Dn P w K mg base 12 "counting_net" ["k"] (spNet K) := by
  refine D.ok fun f fd F => okG0 F sc_counting_net (fun vs H Q E h => ?_) (fun cdv A outer s H vs Q E hr h => ⟨_, (pss_cons (ps_expr (pe_cDd D_want_net (hr.less (by decide)) rfl (pa_cons (pv 0) (pa_cons (pe_glob (v := .int 3) (u := .int 3 B.DEEPEST_.choose) (by rfl) B.DEEPEST_.choose_spec ⟨_, rfl⟩) pa_nil))))
    (pss_one (ps_ret (pe_cD D_counted_lines (hr.less (by decide)) rfl (pa_cons (pe_listRg rfl (by rfl) B.list_ (prg_1 rfl B.range_ (pe_op op_shlW pe_int (pv 0)))) pa_nil))))), ?_⟩)
  · obtain ⟨k, rfl, _⟩ := h; rfl
  · obtain ⟨k, rfl, hk, q⟩ := h
    have eM : 2 ^ k ≤ 8 := (Nat.pow_le_pow_right (by decide) hk : 2 ^ k ≤ 2 ^ 3)
    have e0 := Int.natCast_nonneg (2 ^ k)
    refine ⟨_, rfl, (k : Int), 3, rfl, by omega, by omega, ?_⟩
    refine ⟨_, rfl, _, _, rfl, rfl, shl_ok (by omega), _, rfl, ?_, fun p hp => ?_⟩
    · rw [shl_eq]; exact RgOk.of_le (by decide) (by omega) (by decide) (by omega)
    have erg : rgV 0 (1 * 2 ^ ((k : Int)).toNat) = (iN (List.range (2 ^ k))).map V.int := by
      unfold rgV iN
      rw [shl_eq, show (((2 ^ k : Nat) : Int) - 0).toNat = 2 ^ k by omega, List.map_map]
      exact List.map_congr_left fun x _ => by rw [Int.zero_add] <;> rfl
    rw [erg]
    exact ⟨p, List.range (2 ^ k), k, rfl, upd_same, List.length_range, by omega, hk, fun T H' S hT => q T H' ((same_new hp _).trans S) hT⟩
def PTu (H : Hp) (U : Addr) (ps : List (Nat × Nat)) : Prop := ∃ ts : List Addr, H U = some (.tup (ts.map V.ref)) ∧ PtsAt H ts ps
omit B in
theorem PTu.same {H H' : Hp} {L : Addr} {ps : List (Nat × Nat)} (e : Same H H') (h : PTu H L ps) : PTu H' L ps := by
  obtain ⟨ts, h1, h2⟩ := h; exact ⟨ts, e _ _ h1, h2.same e⟩
def spToggles (K : PySem.W.Frag) : Sp := fun vs H Q _ => ∃ k : Nat, vs = [.int k] ∧ k ≤ 3 ∧ ∀ U H', Same H H' → PTu H' U (cl k (List.range (2 ^ k))).1 → Q (.ref U) H'
theorem k_toggles (D : Df K mg "toggles" s_toggles ["k"]) (D_counting_net : Dn P w K mg base 12 "counting_net" ["k"] (spNet K)) : Dn P w K mg base 13 "toggles" ["k"] (spToggles K) := by
  refine D.ok fun f fd F => okG0 F sc_toggles (fun vs H Q E h => ?_) (fun cdv A outer s H vs Q E hr h => ⟨_, (pss_one (ps_ret (pe_callTy (tupOfK (K := K)) (by rfl) B.tuple_ (by decide +kernel) (pa_cons (pe_ix (kk (K := K) (F := rIxT) (P := IxR _) ix_tup) (pe_cD D_counting_net (hr.less (by decide)) rfl (pa_cons (pv 0) pa_nil)) pe_int (fun _ _ => rfl)) pa_nil)))), ?_⟩)
  · obtain ⟨k, rfl, _⟩ := h; rfl
  · obtain ⟨k, rfl, hk, q⟩ := h
    refine ⟨_, rfl, k, rfl, hk, fun T H1 S1 hT => ?_⟩
    obtain ⟨L1, U1, hT, ⟨ts, hL, hp⟩, hU⟩ := hT
    refine ⟨T, _, _, _, rfl, rfl, SqT.of hT, at_of (j := 0) rfl rfl, L1, _, rfl, .inl ⟨SqL.of hL, fun U hU2 => ?_⟩⟩
    have S2 := same_new hU2 (.tup (ts.map V.ref))
    exact q U _ (S1.trans S2) ⟨ts, upd_same, hp.same S2⟩
def spCounted (K : PySem.W.Frag) : Sp := fun vs H Q _ => ∃ k : Nat, vs = [.int k] ∧ k ≤ 3 ∧ ∀ U H', Same H H' → H' U = some (.tup ((iN (cl k (List.range (2 ^ k))).2).map V.int)) → Q (.ref U) H'
theorem k_counted (D : Df K mg "counted" s_counted ["k"]) (D_counting_net : Dn P w K mg base 12 "counting_net" ["k"] (spNet K)) : Dn P w K mg base 13 "counted" ["k"] (spCounted K) := by
  refine D.ok fun f fd F => okG0 F sc_counted (fun vs H Q E h => ?_) (fun cdv A outer s H vs Q E hr h => ⟨_, (pss_one (ps_ret (pe_callTy (tupOfK (K := K)) (by rfl) B.tuple_ (by decide +kernel) (pa_cons (pe_ix (kk (K := K) (F := rIxT) (P := IxR _) ix_tup) (pe_cD D_counting_net (hr.less (by decide)) rfl (pa_cons (pv 0) pa_nil)) pe_int (fun _ _ => rfl)) pa_nil)))), ?_⟩)
  · obtain ⟨k, rfl, _⟩ := h; rfl
  · obtain ⟨k, rfl, hk, q⟩ := h
    refine ⟨_, rfl, k, rfl, hk, fun T H1 S1 hT => ?_⟩
    obtain ⟨L1, U1, hT, _, hU⟩ := hT
    refine ⟨T, _, _, _, rfl, rfl, SqT.of hT, at_of (j := 1) rfl rfl, U1, _, rfl, .inl ⟨SqL.of hU, fun U hU2 => ?_⟩⟩
    exact q U _ (S1.trans (same_new hU2 _)) upd_same
omit B in
theorem menu4 {a b c d : Int} : ∀ j : Nat, j < 4 → ∃ z : Int, ([.int a, .int b, .int c, .int d] : List V)[j]? = some (.int z) ∧ (z = a ∨ z = b ∨ z = c ∨ z = d)
  | 0, _ => ⟨_, rfl, .inl rfl⟩
  | 1, _ => ⟨_, rfl, .inr (.inl rfl)⟩
  | 2, _ => ⟨_, rfl, .inr (.inr (.inl rfl))⟩
  | 3, _ => ⟨_, rfl, .inr (.inr (.inr rfl))⟩
  | n + 4, h => absurd h (by omega)
/-! ### the law's own draws -/
def spCell (K : PySem.W.Frag) : Sp := fun vs H Q _ => ∃ (a : Addr) (ns : List Int) (k : Nat), vs = [.ref a, .int k] ∧ SqL K H a (ns.map V.int) ∧ ∀ c : Int, Q (.int c) H
theorem k__law_cell (D : Df K mg "_law_cell" s__law_cell ["_law_script", "_law_k"]) : Dn P w K mg base 1 "_law_cell" ["_law_script", "_law_k"] (spCell K) := by
  refine D.ok fun f fd F => okG0 F sc__law_cell (fun vs H Q E h => ?_) (fun cdv A outer s H vs Q E hr h => ⟨_, (pss_cons (ps_if (pt_cmpR op_lt (pv 1) (pe_callB (lenK (K := K)) (by rfl) B.len_ (by decide +kernel) (pa_cons (pv 0) pa_nil)) (nomark _))
      (pss_one (ps_ret (pe_ix (kk (K := K) (F := rIxL) (P := IxR _) ix_list) (pv 0) (pv 1) (fun _ _ => rfl))))
      pss_nil)
    (pss_one (ps_ret pe_int))), ?_⟩)
  · obtain ⟨a, ns, k, rfl, _⟩ := h; rfl
  · obtain ⟨a, ns, k, rfl, hs, q⟩ := h
    refine ⟨_, rfl, _, rfl, a, _, rfl, .inl hs, _, _, rfl, rfl, _, rfl, ite2 (fun c => ?_) (fun c => ?_)⟩
    · have c' : (k : Int) < ((ns.map V.int).length : Nat) := of_decide_eq_true c
      have hk2 : k < ns.length := by rw [List.length_map] at c'; omega
      exact ⟨_, rfl, _, rfl, a, _, _, _, rfl, rfl, hs, at_of (j := k) rfl (by rw [List.getElem?_map, List.getElem?_eq_getElem hk2] <;> rfl), q _⟩
    · exact q 0
def spPot (K : PySem.W.Frag) : Sp := fun vs H Q _ => ∃ (a : Addr) (ns : List Int) (k : Nat), vs = [.ref a, .int k] ∧ SqL K H a (ns.map V.int) ∧ k ≤ 60 ∧ ∀ p H', H p = none → Same H H' → PotAt H' p → Q (.ref p) H'
theorem k__law_pot (D : Df K mg "_law_pot" s__law_pot ["_law_script", "_law_k"]) (D__law_cell : Dn P w K mg base 1 "_law_cell" ["_law_script", "_law_k"] (spCell K)) : Dn P w K mg base 2 "_law_pot" ["_law_script", "_law_k"] (spPot K) := by
  refine D.ok fun f fd F => okG0 F sc__law_pot (fun vs H Q E h => ?_) (fun cdv A outer s H vs Q E hr h => ⟨_, (pss_cons (ps_set (i := 2) sc__law_pot.nd rfl (Or.inl rfl) (pe_cD D__law_cell (hr.less (by decide)) rfl (pa_cons (pv 0) (pa_cons (pv 1) pa_nil))))
    (pss_cons (ps_set (i := 3) sc__law_pot.nd rfl (Or.inl rfl) (pe_op op_mod (pe_op op_mulX (pe_op op_add (pe_op op_mod (pv 2) pe_int) pe_int) pe_int) pe_int))
    (pss_one (ps_ret (pe_lst (pa_cons (pe_callB (call_max2 rfl) (by rfl) B.max_ (by decide +kernel) (pa_cons pe_int (pa_cons (pe_op op_sub (pv 2) (pe_op op_pow pe_int pe_int)) pa_nil))) (pa_cons (pe_op op_add (pe_op op_mod (pe_op op_add (pe_op op_mulX (pv 3) (pv 3)) (pe_op op_mulX pe_int (pv 1))) pe_int) pe_int) pa_nil))))))), ?_⟩)
  · obtain ⟨a, ns, k, rfl, _⟩ := h; rfl
  · obtain ⟨a, ns, k, rfl, hs, hk, q⟩ := h
    refine ⟨_, rfl, _, rfl, a, ns, k, rfl, hs, fun c => ?_⟩
    have m1 := Int.emod_nonneg c (by decide : (2147483629 : Int) ≠ 0)
    have m2 := Int.emod_lt_of_pos c (by decide : (0 : Int) < 2147483629)
    refine ⟨_, rfl, _, _, rfl, rfl, pj, _, _, rfl, rfl, _, _, rfl, rfl, mulx 32 16 (by omega) (by decide), _, _, rfl, rfl, pj, ?_⟩
    have g1 := Int.emod_nonneg ((c % 2147483629 + 1) * 48271) (by decide : (2147483647 : Int) ≠ 0)
    have g2 := Int.emod_lt_of_pos ((c % 2147483629 + 1) * 48271) (by decide : (0 : Int) < 2147483647)
    generalize (c % 2147483629 + 1) * 48271 % 2147483647 = g at g1 g2
    refine ⟨_, rfl, _, _, rfl, rfl, ⟨by decide, by decide, by decide⟩, _, _, rfl, rfl, _, _, rfl, ?_⟩
    refine ⟨_, rfl, _, rfl, _, _, rfl, rfl, mulx 32 32 (by omega) (by omega), _, rfl, _, _, rfl, rfl, mulx 13 10 (by decide) (by omega), _, _, rfl, rfl, _, _, rfl, rfl, pj, _, _, rfl, rfl, sz, fun p hp => ?_⟩
    have e1 := Int.emod_nonneg (g * g + 7919 * (k : Int)) (by decide : (2147483629 : Int) ≠ 0)
    have e2 := Int.emod_lt_of_pos (g * g + 7919 * (k : Int)) (by decide : (0 : Int) < 2147483629)
    refine q p _ hp (same_new hp _) ⟨_, _, upd_same, ?_, by omega, by omega⟩
    split <;> omega
def spTake : Sp := fun vs H Q _ => ∃ (p : Addr) (m : Int), vs = [.ref p, .int m] ∧ PotAt H p ∧ 1 ≤ m ∧ m < 2 ^ 200 ∧ ∀ (d : Int) H', 0 ≤ d → d < m → But p H H' → PotAt H' p → Q (.int d) H'
theorem k__law_draw (D : Df K mg "_law_draw" s__law_draw ["_law_pot_here", "_law_many"]) : Dn P w K mg base 1 "_law_draw" ["_law_pot_here", "_law_many"] spTake := by
  refine D.ok fun f fd F => okG0 F sc__law_draw (fun vs H Q E h => ?_) (fun cdv A outer s H vs Q E hr h => ⟨_, (pss_cons (ps_if (pt_cmpR op_gt (pe_ix (kk (K := K) (F := rIxL) (P := IxR _) ix_list) (pv 0) pe_int (fun _ _ => rfl)) pe_int (nomark _))
      (pss_cons (ps_asg (pe_callB call_divmodW (by rfl) B.divmod_ (by decide +kernel) (pa_cons (pe_ix (kk (K := K) (F := rIxL) (P := IxR _) ix_list) (pv 0) pe_int (fun _ _ => rfl)) (pa_cons (pv 1) pa_nil))) (kk (K := K) (F := fun K => gTup K 2 _) (P := PG _ _) (pg_tup rfl (pgs_cons (pg_sub (pv 0) pe_int set_list) (pgs_cons (pg_name (i := 2) sc__law_draw.nd rfl (Or.inl rfl)) pgs_nil)))))
      (pss_one (ps_ret (pv 2))))
      pss_nil)
    (pss_cons (ps_asg (pe_op op_mod (pe_op op_add (pe_op op_mulX (pe_ix (kk (K := K) (F := rIxL) (P := IxR _) ix_list) (pv 0) pe_int (fun _ _ => rfl)) pe_int) pe_int) pe_int) (pg_sub (pv 0) pe_int set_list))
    (pss_one (ps_ret (pe_op op_mod (pe_op op_fdivW (pe_op op_mod (pe_op op_mulX (pe_ix (kk (K := K) (F := rIxL) (P := IxR _) ix_list) (pv 0) pe_int (fun _ _ => rfl)) (pe_ix (kk (K := K) (F := rIxL) (P := IxR _) ix_list) (pv 0) pe_int (fun _ _ => rfl))) pe_int) pe_int) (pv 1)))))), ?_⟩)
  · obtain ⟨p, m, rfl, _⟩ := h; rfl
  · obtain ⟨p, m, rfl, ⟨a, b, hp, ha, hb, hb2⟩, hm, hm2, q⟩ := h
    refine ⟨_, rfl, p, _, _, _, rfl, rfl, SqL.of hp, at_of (j := 0) rfl rfl, _, _, rfl, rfl, _, rfl, ite2 (fun c => ?_) (fun c => ?_)⟩
    · refine ⟨_, rfl, p, _, _, _, rfl, rfl, SqL.of hp, at_of (j := 0) rfl rfl, _, rfl, _, _, rfl, divp_small (by omega) (Int.lt_trans hm2 (by decide)), fun t ht => ?_⟩
      have np : p ≠ t := ne_of_none hp ht
      refine ⟨t, _, rfl, SqT.of upd_same, rfl, _, _, rfl, _, rfl, p, _, _, _, rfl, rfl, by rw [upd_ne np]; exact hp, rfl, _, _, rfl, rfl, _, rfl, ?_⟩
      have h1 := Int.emod_nonneg a (by omega : m ≠ 0)
      have h2 := Int.emod_lt_of_pos a (by omega : 0 < m)
      have h3 := Int.ediv_nonneg ha (by omega : 0 ≤ m)
      exact q _ _ h1 h2 ((same_but (same_new ht _)).trans But.upd) ⟨_, _, upd_same, h3, hb, hb2⟩
    · have hm1 := Int.emod_nonneg (b * 39373 + 11) (by decide : (2147483647 : Int) ≠ 0)
      have hm3 := Int.emod_lt_of_pos (b * 39373 + 11) (by decide : (0 : Int) < 2147483647)
      refine ⟨_, rfl, p, _, _, _, rfl, rfl, SqL.of hp, at_of (j := 1) rfl rfl, _, _, rfl, rfl, mulx 40 16 (by omega) (by decide), _, _, rfl, rfl, _, _, rfl, rfl, pj, ?_⟩
      refine ⟨_, rfl, p, _, _, _, rfl, rfl, hp, rfl, ?_⟩
      refine ⟨_, rfl, p, _, _, _, rfl, rfl, SqL.of upd_same, at_of (j := 1) rfl rfl, _, rfl, p, _, _, _, rfl, rfl, SqL.of upd_same, at_of (j := 1) rfl rfl, _, _, rfl, rfl, mulx 31 31 (by omega) (by omega), ?_⟩
      refine ⟨_, _, rfl, rfl, pj, _, _, rfl, rfl, ⟨by decide, by decide⟩, _, rfl, _, _, rfl, rfl, hm, ?_⟩
      exact q _ _ (Int.emod_nonneg _ (by omega)) (Int.emod_lt_of_pos _ (by omega)) But.upd ⟨_, _, upd_same, ha, hm1, by omega⟩
omit B in
theorem rg2 {m lo : Nat} (hm : m ≤ 2) (hlo : lo ≤ 1) : RgC (lo : Int) ((2 ^ (m + 1) : Nat) : Int) 2 (2 ^ m) := by
  obtain rfl | rfl | rfl : m = 0 ∨ m = 1 ∨ m = 2 := by omega
  all_goals
    obtain rfl | rfl : lo = 0 ∨ lo = 1 := by omega
    all_goals exact ⟨by decide, by decide, by decide, by decide⟩
omit B in
/-- [[row[place] for place in range(lo, many, 2)] for row in (one, other)] -/
theorem halves_lc {H : Hp} {Q : VK} {o1 o2 : Addr} {a b : List Nat} {lo k : Nat} {v3 v4 v5 v6 v7 v8 v9 v10 v11 : Option V} (hk : k ≤ 2) (hlo : lo ≤ 1) (h1 : H o1 = some (.lst ((iN a).map V.int))) (h2 : H o2 = some (.lst ((iN b).map V.int)))
    (la : a.length = 2 ^ (k + 1)) (lb : b.length = 2 ^ (k + 1))
    (q : ∀ E e1 e2 H', Same H H' → H' E = some (.lst [.ref e1, .ref e2]) → H' e1 = some (.lst ((iN (by2 lo a)).map V.int)) → H' e2 = some (.lst ((iN (by2 lo b)).map V.int)) → Q (.ref E) H') :
    tLc (iTup K (tTup (tCons (tVar 0) (tCons (tVar 1) tNil)))) (gName 3) tYes (tLc (iRng3 (tCons (tC (.int (lo : Int))) (tCons (tVar 2) (tCons (tC (.int 2)) tNil)))) (gName 4) tYes (tOp (rIxL K) (tVar 3) (tVar 4)) [4]) [3]
      [some (.ref o1), some (.ref o2), some (.int ((2 ^ (k + 1) : Nat) : Int)), v3, v4, v5, v6, v7, v8, v9, v10, v11] H Q := by
  obtain ⟨c1, c2⟩ := two_pow_even k
  refine ⟨_, rfl, _, rfl, sz, fun tt htt => ⟨tt, rfl, ⟨_, SqT.of upd_same⟩, fun D hD => ?_⟩⟩
  have S0 := same_new htt (.tup [.ref o1, .ref o2])
  refine lc_tup (K := K) (a := tt) (xs := [.ref o1, .ref o2]) (fun i H2 => ∃ es : List Addr, Same (upd H tt (.tup [.ref o1, .ref o2])) H2 ∧ H2 D = some (.lst (es.map V.ref)) ∧ es.length = i ∧ (∀ (j : Nat) (e : Addr) (x : List Nat), es[j]? = some e → [a, b][j]? = some x → H2 e = some (.lst ((iN (by2 lo x)).map V.int))))
    ⟨[], same_new hD _, upd_same, rfl, fun j e x h => by simp at h⟩ (fun i H2 _ h => by obtain ⟨_, h, _⟩ := h; exact SqT.of (h _ _ upd_same)) ?_ ?_
  · rintro i y H2 hi ⟨es, S2, hD2, hl, hes⟩
    have hi2 : i < 2 := (List.getElem?_eq_some_iff.mp hi).1
    obtain ⟨o, x, rfl, hx, ho, hlx⟩ : ∃ (o : Addr) (x : List Nat), y = .ref o ∧ [a, b][i]? = some x ∧ H o = some (.lst ((iN x).map V.int)) ∧ x.length = 2 ^ (k + 1) := by
      obtain rfl | rfl : i = 0 ∨ i = 1 := by omega
      · exact ⟨o1, a, (Option.some.inj hi).symm, rfl, h1, la⟩
      · exact ⟨o2, b, (Option.some.inj hi).symm, rfl, h2, lb⟩
    have ho2 := S2 _ _ (S0 _ _ ho)
    refine ⟨rfl, _, rfl, _, _, _, _, rfl, rg2 hk hlo, fun D2 hD2' => ?_⟩
    have nDD : D ≠ D2 := ne_of_none hD2 hD2'
    refine lc_rangeC (n := 2 ^ k) (fun j H3 => Same H2 H3 ∧ H3 D2 = some (.lst ((iN ((List.range j).map fun i => x.getD (lo + 2 * i) 0)).map V.int))) ⟨same_new hD2' _, upd_same⟩ ?_ ?_
    · rintro j H3 hj ⟨S3, hD3⟩
      have hlt : lo + 2 * j < x.length := by omega
      refine ⟨rfl, _, rfl, _, rfl, o, _, _, _, rfl, rfl, SqL.of (S3 _ _ ho2), at_of (j := lo + 2 * j) (by push_cast; omega) (iN_at (getD_at hlt)), ?_⟩
      refine ⟨_, hD3, small1000 (by rw [iN_len, List.length_map, List.length_range]; have : 2 ^ k ≤ 2 ^ 2 := Nat.pow_le_pow_right (by decide) hk; omega), but_same hD2' S3 But.upd, ?_⟩
      rw [upd_same, iN_snoc, List.range_succ, List.map_append] <;> rfl
    · rintro H3 ⟨S3, hD3⟩
      have e : (List.range (2 ^ k)).map (fun i => x.getD (lo + 2 * i) 0) = by2 lo x := by rw [by2_is hlo (by omega), hlx, c2]
      rw [e] at hD3
      refine ⟨_, S3 _ _ hD2, small1000 (by rw [List.length_map]; omega), es ++ [D2], but_same hD (S2.trans S3) But.upd, by rw [upd_same, List.map_append] <;> rfl, by rw [List.length_append, hl] <;> rfl, fun j e' x' hj hx' => ?_⟩
      by_cases c : j < i
      · rw [List.getElem?_append_left (by omega)] at hj
        have h5 := S3 _ _ (hes j e' x' hj hx')
        have h6 : e' ≠ D := fun z => by
          have h7 := hes j e' x' hj hx'
          rw [z, hD2] at h7
          have h8 := HO.lst.inj (Option.some.inj h7)
          have h9 := congrArg List.length h8
          cases es with
          | nil => simp at hj
          | cons e0 es =>
            cases hx0 : by2 lo x' with
            | nil => rw [hx0] at h8; cases h8
            | cons n0 l0 => rw [hx0] at h8; cases h8
        rw [upd_ne h6]
        exact h5
      · have hj2 := (List.getElem?_eq_some_iff.mp hj).1
        rw [List.length_append] at hj2
        have hj3 : j < es.length + 1 := hj2
        have : j = i := by omega
        subst this
        rw [List.getElem?_append_right (by omega), hl, Nat.sub_self] at hj
        cases (Option.some.inj hj)
        rw [hx] at hx'
        cases (Option.some.inj hx')
        rw [upd_ne (Ne.symm nDD)]
        exact hD3
  · rintro H2 ⟨es, S2, hD2, hl, hes⟩
    match es, hl with
    | [e1, e2], _ => exact q D e1 e2 H2 (S0.trans S2) hD2 (hes 0 e1 a rfl rfl) (hes 1 e2 b rfl rfl)
omit B in
theorem halves_st {D : Ends} {rest : TS} {g : Nat} {H : Hp} {o1 o2 : Addr} {a b : List Nat} {lo k : Nat} {v3 v4 v5 v6 v7 v8 v9 v10 v11 : Option V} (hk : k ≤ 2) (hlo : lo ≤ 1) (h1 : H o1 = some (.lst ((iN a).map V.int))) (h2 : H o2 = some (.lst ((iN b).map V.int)))
    (la : a.length = 2 ^ (k + 1)) (lb : b.length = 2 ^ (k + 1))
    (q : ∀ E e1 e2 H', Same H H' → H' E = some (.lst [.ref e1, .ref e2]) → H' e1 = some (.lst ((iN (by2 lo a)).map V.int)) → H' e2 = some (.lst ((iN (by2 lo b)).map V.int)) → rest D ([some (.ref o1), some (.ref o2), some (.int ((2 ^ (k + 1) : Nat) : Int)), v3, v4, v5, v6, v7, v8, v9, v10, v11].set g (some (.ref E))) H') :
    tSeq (tAsg (tLc (iTup K (tTup (tCons (tVar 0) (tCons (tVar 1) tNil)))) (gName 3) tYes (tLc (iRng3 (tCons (tC (.int (lo : Int))) (tCons (tVar 2) (tCons (tC (.int 2)) tNil)))) (gName 4) tYes (tOp (rIxL K) (tVar 3) (tVar 4)) [4]) [3]) (gName g)) rest D
      [some (.ref o1), some (.ref o2), some (.int ((2 ^ (k + 1) : Nat) : Int)), v3, v4, v5, v6, v7, v8, v9, v10, v11] H :=
  halves_lc (Q := fun x H1 => gName g x [some (.ref o1), some (.ref o2), some (.int ((2 ^ (k + 1) : Nat) : Int)), v3, v4, v5, v6, v7, v8, v9, v10, v11] H1 (rest D)) hk hlo h1 h2 la lb q
theorem _law_merged_z (vs : List V) (H : Hp) (Q : VK) (E : XK) : ¬ spMerged K 0 vs H Q E := by
  rintro ⟨o1, o2, a, b, m, _, _, _, _, _, h, _⟩
  omega
theorem k__law_merged_rec (D : Df K mg "_law_merged" s__law_merged ["_law_one", "_law_other"]) : ∀ n : Nat, Dn P w K mg base (1 + n) "_law_merged" ["_law_one", "_law_other"] ((spMerged K) n) := by
  intro n
  induction n with
  | zero => exact D.ok fun f fd F => ⟨fun vs H Q E h => (_law_merged_z B vs H Q E h).elim, fun _ _ _ _ h => (_law_merged_z B _ _ _ _ h).elim⟩
  | succ n D__law_merged =>
    refine D.ok fun f fd F => okG0 (k := 1 + n) F sc__law_merged (fun vs H Q E h => ?_) (fun cdv A outer s H vs Q E hr h => ⟨_, (pss_cons (ps_set (i := 2) sc__law_merged.nd rfl (Or.inr rfl) (pe_callB (lenK (K := K)) (by rfl) B.len_ (by decide +kernel) (pa_cons (pv 0) pa_nil)))
    (C8.pss_cut (ps_if (pt_cmpR op_eq (pv 2) pe_int (nomark _))
      (pss_one (ps_ret (pe_tup (pa_cons (pe_lst (pa_cons (pe_tup (pa_cons (pe_ix (kk (K := K) (F := rIxL) (P := IxR _) ix_list) (pv 0) pe_int (fun _ _ => rfl)) (pa_cons (pe_ix (kk (K := K) (F := rIxL) (P := IxR _) ix_list) (pv 1) pe_int (fun _ _ => rfl)) pa_nil))) pa_nil)) (pa_cons (pe_op op_cat (pv 0) (pv 1)) pa_nil)))))
      pss_nil)
    (pss_cons (ps_setLc (i := 5) (own := [("_law_row", 3)]) (g := gName 3) (tt := tYes) rfl sc__law_merged.nd rfl rfl (sw_true rfl rfl rfl (by decide +kernel)) (kk (K := K) (F := fun K => iTup K _) (P := PI _ _ _) (pi_tup (pe_tup (pa_cons (pv 0) (pa_cons (pv 1) pa_nil))))) (blkOk_by (own := [("_law_row", 3)]) (N := ["_law_one", "_law_other", "_law_many", "_law_row", "_law_place", "_law_evens", "_law_odds", "_law_first", "_law_upper", "_law_second", "_law_lower", "_law_last"]) (sc := defScope s__law_merged) (by decide +kernel)) (fun _ _ _ _ _ => (pg_name (i := 3) sc__law_merged.nd rfl (Or.inr rfl))) (fun _ _ _ _ _ => pts_nil) (fun _ _ _ _ _ => (pe_lc (own := [("_law_place", 4)]) (g := gName 4) (tt := tYes) rfl sc__law_merged.nd (pi_range3 (by rfl) B.range_ (pa_cons pe_int (pa_cons (pv 2) (pa_cons pe_int pa_nil)))) (blkOk_nest (own := [("_law_place", 4)]) (N := ["_law_one", "_law_other", "_law_many", "_law_row", "_law_place", "_law_evens", "_law_odds", "_law_first", "_law_upper", "_law_second", "_law_lower", "_law_last"]) rfl (by decide +kernel)) (fun _ _ _ _ _ => (pg_name (i := 4) sc__law_merged.nd rfl (Or.inl rfl))) (fun _ _ _ _ _ => pts_nil) (fun _ _ _ _ _ => (pe_ix (kk (K := K) (F := rIxL) (P := IxR _) ix_list) (pv 3) (pv 4) (fun _ _ => rfl))))))
    (pss_cons (ps_setLc (i := 6) (own := [("_law_row", 3)]) (g := gName 3) (tt := tYes) rfl sc__law_merged.nd rfl rfl (sw_true rfl rfl rfl (by decide +kernel)) (kk (K := K) (F := fun K => iTup K _) (P := PI _ _ _) (pi_tup (pe_tup (pa_cons (pv 0) (pa_cons (pv 1) pa_nil))))) (blkOk_by (own := [("_law_row", 3)]) (N := ["_law_one", "_law_other", "_law_many", "_law_row", "_law_place", "_law_evens", "_law_odds", "_law_first", "_law_upper", "_law_second", "_law_lower", "_law_last"]) (sc := defScope s__law_merged) (by decide +kernel)) (fun _ _ _ _ _ => (pg_name (i := 3) sc__law_merged.nd rfl (Or.inr rfl))) (fun _ _ _ _ _ => pts_nil) (fun _ _ _ _ _ => (pe_lc (own := [("_law_place", 4)]) (g := gName 4) (tt := tYes) rfl sc__law_merged.nd (pi_range3 (by rfl) B.range_ (pa_cons pe_int (pa_cons (pv 2) (pa_cons pe_int pa_nil)))) (blkOk_nest (own := [("_law_place", 4)]) (N := ["_law_one", "_law_other", "_law_many", "_law_row", "_law_place", "_law_evens", "_law_odds", "_law_first", "_law_upper", "_law_second", "_law_lower", "_law_last"]) rfl (by decide +kernel)) (fun _ _ _ _ _ => (pg_name (i := 4) sc__law_merged.nd rfl (Or.inl rfl))) (fun _ _ _ _ _ => pts_nil) (fun _ _ _ _ _ => (pe_ix (kk (K := K) (F := rIxL) (P := IxR _) ix_list) (pv 3) (pv 4) (fun _ _ => rfl))))))
    (pss_cons (ps_asg (pe_cD D__law_merged (hr.less (by omega)) rfl (pa_cons (pe_ix (kk (K := K) (F := rIxL) (P := IxR _) ix_list) (pv 5) pe_int (fun _ _ => rfl)) (pa_cons (pe_ix (kk (K := K) (F := rIxL) (P := IxR _) ix_list) (pv 6) pe_int (fun _ _ => rfl)) pa_nil))) (kk (K := K) (F := fun K => gTup K 2 _) (P := PG _ _) (pg_tup rfl (pgs_cons (pg_name (i := 7) sc__law_merged.nd rfl (Or.inl rfl)) (pgs_cons (pg_name (i := 8) sc__law_merged.nd rfl (Or.inl rfl)) pgs_nil)))))
    (pss_cons (ps_asg (pe_cD D__law_merged (hr.less (by omega)) rfl (pa_cons (pe_ix (kk (K := K) (F := rIxL) (P := IxR _) ix_list) (pv 6) pe_int (fun _ _ => rfl)) (pa_cons (pe_ix (kk (K := K) (F := rIxL) (P := IxR _) ix_list) (pv 5) pe_int (fun _ _ => rfl)) pa_nil))) (kk (K := K) (F := fun K => gTup K 2 _) (P := PG _ _) (pg_tup rfl (pgs_cons (pg_name (i := 9) sc__law_merged.nd rfl (Or.inl rfl)) (pgs_cons (pg_name (i := 10) sc__law_merged.nd rfl (Or.inl rfl)) pgs_nil)))))
    (pss_cons (ps_set (i := 3) sc__law_merged.nd rfl (Or.inl rfl) (pe_lst pa_nil))
    (pss_cons (ps_set (i := 11) sc__law_merged.nd rfl (Or.inl rfl) (pe_lst pa_nil))
    (pss_cons (ps_for PassesOwn.never rfl (pi_range1 (by rfl) B.range_ (pa_cons (pv 2) pa_nil)) (pg_name (i := 4) sc__law_merged.nd rfl (Or.inl rfl))
      (pss_cons (ps_expr (kk (K := K) (F := fun K => tBM K "list" _ _ _) (P := PE _ _) (pe_bm PySem.F.plainAttrs_list PySem.F.slot_list_append PySem.F.type_list_append mt_append (pv 11) (pa_cons (pe_tup (pa_cons (pe_ix (kk (K := K) (F := rIxL) (P := IxR _) ix_list) (pv 8) (pv 4) (fun _ _ => rfl)) (pa_cons (pe_ix (kk (K := K) (F := rIxL) (P := IxR _) ix_list) (pv 10) (pv 4) (fun _ _ => rfl)) pa_nil))) pa_nil))))
      (pss_one (ps_set (i := 3) sc__law_merged.nd rfl (Or.inl rfl) (pe_op op_cat (pv 3) (pe_lst (pa_cons (pe_ix (kk (K := K) (F := rIxL) (P := IxR _) ix_list) (pv 8) (pv 4) (fun _ _ => rfl)) (pa_cons (pe_ix (kk (K := K) (F := rIxL) (P := IxR _) ix_list) (pv 10) (pv 4) (fun _ _ => rfl)) pa_nil))))))))
    (pss_one (ps_ret (pe_tup (pa_cons (pe_op op_cat (pe_op op_cat (pv 7) (pv 9)) (pv 11)) (pa_cons (pv 3) pa_nil)))))))))))))), ?_⟩)
    · obtain ⟨o1, o2, a, b, m, rfl, _⟩ := h; rfl
    · obtain ⟨o1, o2, a, b, m, rfl, h1, h2, la, lb, hm, h3, q⟩ := h
      refine ⟨_, rfl, o1, _, rfl, .inl (SqL.of h1), ?_⟩
      dsimp only
      rw [show ((((iN a).map V.int).length : Nat) : Int) = ((2 ^ m : Nat) : Int) by rw [iN_len, la]]
      refine ⟨fun σ H' => σ = [some (.ref o1), some (.ref o2), some (.int ((2 ^ m : Nat) : Int)), none, none, none, none, none, none, none, none, none] ∧ H' = H ∧ 1 ≤ m, ⟨_, rfl, rfl, _, rfl, ite2 (fun c => ?_) (fun c => ?_)⟩, ?_⟩
      · have hm0 : m = 0 := by
          have e := V.int.inj (of_decide_eq_true c)
          rcases Nat.eq_zero_or_pos m with e2 | e2
          · exact e2
          · have := Nat.one_lt_two_pow (n := m) (by omega); omega
        subst hm0
        have la' : a.length = 1 := la
        have lb' : b.length = 1 := lb
        have ga : a[0]? = some (a.getD 0 0) := getD_at (by omega)
        have gb : b[0]? = some (b.getD 0 0) := getD_at (by omega)
        refine ⟨_, rfl, o1, _, _, _, rfl, rfl, SqL.of h1, at_of (j := 0) rfl (iN_at ga), _, rfl, o2, _, _, _, rfl, rfl, SqL.of h2, at_of (j := 0) rfl (iN_at gb), sz, fun t ht => ⟨sz, fun L1 hL1 => ?_⟩⟩
        have S1 := same_new ht (.tup [.int (a.getD 0 0 : Nat), .int (b.getD 0 0 : Nat)])
        have S2 := same_new hL1 (.lst [.ref t])
        have S12 := S1.trans S2
        refine ⟨_, rfl, _, rfl, o1, o2, _, _, rfl, rfl, S12 _ _ h1, S12 _ _ h2, small (by rw [iN_len, iN_len]; omega), fun L2 hL2 => ⟨sz, fun T hT => ?_⟩⟩
        have S3 := same_new hL2 (.lst ((iN a).map V.int ++ (iN b).map V.int))
        have S4 := same_new hT (.tup [.ref L1, .ref L2])
        have S34 := S3.trans S4
        have ea : a = [a.getD 0 0] := by
          match a, la' with
          | [x], _ => rfl
        have eb : b = [b.getD 0 0] := by
          match b, lb' with
          | [x], _ => rfl
        refine q T _ (S12.trans S34) ⟨L1, L2, upd_same, ⟨[t], S34 _ _ upd_same, PtsAt.one (S34 _ _ (S2 _ _ upd_same))⟩, ?_⟩
        rw [S4 _ _ upd_same, iN_app]
        show _ = some (HO.lst ((iN [a.getD 0 0, b.getD 0 0]).map V.int))
        rw [show a ++ b = [a.getD 0 0, b.getD 0 0] by rw [ea, eb] <;> rfl]
      · rcases Nat.eq_zero_or_pos m with e2 | e2
        · subst e2
          exact absurd (decide_eq_true rfl) c
        · exact ⟨rfl, rfl, e2⟩
      · rintro _ _ ⟨rfl, rfl, m1⟩
        obtain ⟨k, rfl⟩ : ∃ k, m = k + 1 := ⟨m - 1, by omega⟩
        obtain ⟨e1, e2⟩ := two_pow_even k
        have l1 : (by2 0 a).length = 2 ^ k := by rw [by2_half (by decide) (by omega)]; omega
        have l2 : (by2 1 b).length = 2 ^ k := by rw [by2_half (by decide) (by omega)]; omega
        have l3 : (by2 1 a).length = 2 ^ k := by rw [by2_half (by decide) (by omega)]; omega
        have l4 : (by2 0 b).length = 2 ^ k := by rw [by2_half (by decide) (by omega)]; omega
        refine halves_st (lo := 0) (by omega) (by decide) h1 h2 la lb fun E ea eb H1 S1 hE hea heb => ?_
        refine halves_st (lo := 1) (by omega) (by decide) (S1 _ _ h1) (S1 _ _ h2) la lb fun O oa ob H2 S2 hO hoa hob => ?_
        refine ⟨_, rfl, E, _, _, _, rfl, rfl, SqL.of (S2 _ _ hE), at_of (j := 0) rfl rfl, _, rfl, O, _, _, _, rfl, rfl, SqL.of hO, at_of (j := 1) rfl rfl, ea, ob, by2 0 a, by2 1 b, k, rfl, S2 _ _ hea, hob, l1, l2, by omega, by omega, fun T1 H3 S3 hT1 => ?_⟩
        obtain ⟨L1, U1, hT1, hL1, hU1⟩ := hT1
        refine ⟨T1, _, rfl, SqT.of hT1, rfl, _, _, rfl, _, _, rfl, rfl, ?_⟩
        refine ⟨_, rfl, O, _, _, _, rfl, rfl, SqL.of (S3 _ _ hO), at_of (j := 0) rfl rfl, _, rfl, E, _, _, _, rfl, rfl, SqL.of (S3 _ _ (S2 _ _ hE)), at_of (j := 1) rfl rfl, oa, eb, by2 1 a, by2 0 b, k, rfl, S3 _ _ hoa, S3 _ _ (S2 _ _ heb), l3, l4, by omega, by omega, fun T2 H4 S4 hT2 => ?_⟩
        obtain ⟨L2, U2, hT2, hL2, hU2⟩ := hT2
        refine ⟨T2, _, rfl, SqT.of hT2, rfl, _, _, rfl, _, _, rfl, rfl, ?_⟩
        have S16 := S1.trans (S2.trans (S3.trans S4))
        have hL1' := hL1.same S4
        have hU1' := S4 _ _ hU1
        clear S1 S2 S3 S4 hL1 hU1 hT1 hT2 hE hea heb hO hoa hob
        have g1 := mg_len k l1 l2
        have g2 := mg_len k l3 l4
        have t1 := mg_tog k l1 l2
        have t2 := mg_tog k l3 l4
        have hk16 : 2 ^ (k + 1) ≤ 2 ^ 3 := Nat.pow_le_pow_right (by decide) (by omega)
        have hkm : (k + 1) * 2 ^ k ≤ 3 * 2 ^ 2 := Nat.mul_le_mul (by omega) (Nat.pow_le_pow_right (by decide) (by omega))
        have hmg : mgd (k + 1) a b = ((mgd k (by2 0 a) (by2 1 b)).1 ++ (mgd k (by2 1 a) (by2 0 b)).1 ++ (mgd k (by2 0 a) (by2 1 b)).2.zip (mgd k (by2 1 a) (by2 0 b)).2, fl ((mgd k (by2 0 a) (by2 1 b)).2.zip (mgd k (by2 1 a) (by2 0 b)).2)) := rfl
        rw [hmg] at q
        clear hmg
        generalize mgd k (by2 0 a) (by2 1 b) = x at *
        generalize mgd k (by2 1 a) (by2 0 b) = y at *
        obtain ⟨x1, x2⟩ := x
        obtain ⟨y1, y2⟩ := y
        have g1' : x2.length = 2 ^ (k + 1) := g1
        have g2' : y2.length = 2 ^ (k + 1) := g2
        have hU1'' : H4 U1 = some (.lst ((iN x2).map V.int)) := hU1'
        have hU2'' : H4 U2 = some (.lst ((iN y2).map V.int)) := hU2
        refine ⟨sz, fun R hR => ⟨sz, fun L hL => ?_⟩⟩
        have S5 := same_new hR (.lst [])
        have S6 := same_new hL (.lst [])
        have S56 := S5.trans S6
        have nLR : R ≠ L := ne_of_none upd_same hL
        have hL4 : H4 L = none := S5.free hL
        refine ⟨_, rfl, _, rfl, by omega, by omega, ?_⟩
        rw [Int.toNat_natCast]
        refine for_range (lo := 0) (n := 2 ^ (k + 1)) (fun i σ H5 => ∃ (R' : Addr) (v4 : Option V) (ts : List Addr), σ = [some (.ref o1), some (.ref o2), some (.int ((2 ^ (k + 1) : Nat) : Int)), some (.ref R'), v4, some (.ref E), some (.ref O), some (.ref L1), some (.ref U1), some (.ref L2), some (.ref U2), some (.ref L)] ∧ Same H4 H5 ∧ H5 L = some (.lst (ts.map V.ref)) ∧ PtsAt H5 ts ((x2.zip y2).take i) ∧ H5 R' = some (.lst ((iN (fl ((x2.zip y2).take i))).map V.int)) ∧ R' ≠ L)
          ⟨R, none, [], rfl, S56, upd_same, ⟨rfl, fun j t p h => by simp at h⟩, by rw [upd_ne nLR, upd_same] <;> rfl, nLR⟩ ?_ ?_
        · rintro i σ H5 hi ⟨R', v4, ts, rfl, S7, hL5, hpt, hR5, nR⟩
          have zl : (x2.zip y2).length = 2 ^ (k + 1) := by rw [List.length_zip]; omega
          have hz : (x2.zip y2)[i]? = some (x2[i], y2[i]) := by rw [List.getElem?_eq_getElem (by omega), List.getElem_zip]
          have a1 := iN_at (List.getElem?_eq_getElem (by omega : i < x2.length))
          have a2 := iN_at (List.getElem?_eq_getElem (by omega : i < y2.length))
          have ht1 := hpt.1
          rw [List.length_take, zl] at ht1
          refine ⟨_, rfl, .inl ⟨rfl, _, SqL.of hL5⟩, _, rfl, _, rfl, U1, _, _, _, rfl, rfl, SqL.of (S7 _ _ hU1''), at_of (j := i) (by omega) a1, _, rfl, _, rfl, U2, _, _, _, rfl, rfl, SqL.of (S7 _ _ hU2''), at_of (j := i) (by omega) a2, sz, fun t ht => ?_⟩
          have S8 := same_new ht (.tup [.int (x2[i] : Nat), .int (y2[i] : Nat)])
          have ntL : t ≠ L := fun z => by rw [z, hL5] at ht; cases ht
          refine ⟨L, _, _, rfl, rfl, S8 _ _ hL5, small1000 (by rw [List.length_map]; omega), ?_⟩
          have S9 : Same H4 (upd (upd H5 t (.tup [.int (x2[i] : Nat), .int (y2[i] : Nat)])) L (.lst (ts.map V.ref ++ [.ref t]))) := but_same hL4 (S7.trans S8) But.upd
          have hL9 : (upd (upd H5 t (.tup [.int (x2[i] : Nat), .int (y2[i] : Nat)])) L (.lst (ts.map V.ref ++ [.ref t]))) L = some (.lst ((ts ++ [t]).map V.ref)) := by rw [upd_same, List.map_append] <;> rfl
          have hR9 : (upd (upd H5 t (.tup [.int (x2[i] : Nat), .int (y2[i] : Nat)])) L (.lst (ts.map V.ref ++ [.ref t]))) R' = some (.lst ((iN (fl ((x2.zip y2).take i))).map V.int)) := by rw [upd_ne nR]; exact S8 _ _ hR5
          have hp9 : PtsAt (upd (upd H5 t (.tup [.int (x2[i] : Nat), .int (y2[i] : Nat)])) L (.lst (ts.map V.ref ++ [.ref t]))) (ts ++ [t]) ((x2.zip y2).take (i + 1)) := by
            rw [List.take_succ, hz]
            refine PtsAt.app ⟨hpt.1, fun j t' p' hj hp' => ?_⟩ (PtsAt.one (by rw [upd_ne ntL, upd_same]))
            have h5 := hpt.2 j t' p' hj hp'
            rw [upd_ne (ne_of h5 hL5 (by intro z; cases z))]
            exact S8 _ _ h5
          generalize upd (upd H5 t (.tup [.int (x2[i] : Nat), .int (y2[i] : Nat)])) L (.lst (ts.map V.ref ++ [.ref t])) = H9 at S9 hL9 hR9 hp9
          refine ⟨_, rfl, _, rfl, _, rfl, U1, _, _, _, rfl, rfl, SqL.of (S9 _ _ hU1''), at_of (j := i) (by omega) a1, _, rfl, _, rfl, U2, _, _, _, rfl, rfl, SqL.of (S9 _ _ hU2''), at_of (j := i) (by omega) a2, sz, fun b' hb' => ?_⟩
          have S10 := same_new hb' (.lst [.int (x2[i] : Nat), .int (y2[i] : Nat)])
          refine ⟨R', b', _, _, rfl, rfl, S10 _ _ hR9, upd_same, small (by rw [iN_len, fl_len, List.length_take]; show 2 * min i _ + 2 ≤ 1000; omega), fun R2 hR2 => ?_⟩
          have S11 := same_new hR2 (.lst ((iN (fl ((x2.zip y2).take i))).map V.int ++ [.int (x2[i] : Nat), .int (y2[i] : Nat)]))
          have S1011 := S10.trans S11
          refine ⟨R2, _, ts ++ [t], rfl, S9.trans S1011, S1011 _ _ hL9, hp9.same S1011, ?_, fun z => by rw [z] at hR2; rw [S10 _ _ hL9] at hR2; cases hR2⟩
          rw [upd_same, List.take_succ, hz]
          show _ = some (HO.lst ((iN (fl ((x2.zip y2).take i ++ [(x2[i], y2[i])]))).map V.int))
          rw [fl_snoc]
          unfold iN
          rw [List.map_append, List.map_append] <;> rfl
        · rintro σ H5 ⟨R', v4, ts, rfl, S7, hL5, hpt, hR5, nR⟩
          have zl : (x2.zip y2).length = 2 ^ (k + 1) := by rw [List.length_zip]; omega
          rw [List.take_of_length_le (by omega)] at hpt hR5
          obtain ⟨t1s, hL1a, hL1b⟩ := hL1'.same S7
          obtain ⟨t2s, hL2a, hL2b⟩ := hL2.same S7
          have c1 : t1s.length = x1.length := hL1b.1
          have c2 : t2s.length = y1.length := hL2b.1
          have c3 := hpt.1
          have c1' : x1.length = (k + 1) * 2 ^ k := t1
          have c2' : y1.length = (k + 1) * 2 ^ k := t2
          refine ⟨_, rfl, _, rfl, L1, L2, _, _, rfl, rfl, hL1a, hL2a, small (by rw [List.length_map, List.length_map]; omega), fun M1 hM1 => ?_⟩
          have S10 := same_new hM1 (.lst (t1s.map V.ref ++ t2s.map V.ref))
          refine ⟨_, rfl, M1, L, _, _, rfl, rfl, upd_same, S10 _ _ hL5, small (by rw [List.length_append, List.length_map, List.length_map, List.length_map]; omega), fun M hM => ?_⟩
          have S11 := same_new hM (.lst ((t1s.map V.ref ++ t2s.map V.ref) ++ ts.map V.ref))
          refine ⟨_, rfl, sz, fun T hT => ?_⟩
          have S12 := same_new hT (.tup [.ref M, .ref R'])
          have S1112 := S11.trans S12
          have S1012 := S10.trans S1112
          refine q T _ (S16.trans (S7.trans S1012)) ⟨M, R', upd_same, ⟨t1s ++ t2s ++ ts, ?_, ((hL1b.same S1012).app (hL2b.same S1012)).app (hpt.same S1012)⟩, S1012 _ _ hR5⟩
          rw [S12 _ _ upd_same, List.map_append, List.map_append]
theorem k__law_merged (D : Df K mg "_law_merged" s__law_merged ["_law_one", "_law_other"]) : Dn P w K mg base 5 "_law_merged" ["_law_one", "_law_other"] ((spMerged K) 4) := k__law_merged_rec B D  4
omit B in
theorem rg_take {b k : Nat} : ((List.range (2 ^ (k + 1))).map fun i => b + i).take (2 ^ k) = (List.range (2 ^ k)).map fun i => b + i := by
  have e3 : 2 ^ (k + 1) = 2 ^ k + 2 ^ k := by rw [Nat.pow_succ]; omega
  have hp := Nat.two_pow_pos k
  rw [← List.map_take, List.take_range, e3, Nat.min_eq_left (by omega)]
omit B in
theorem rg_drop {b k : Nat} : ((List.range (2 ^ (k + 1))).map fun i => b + i).drop (2 ^ k) = (List.range (2 ^ k)).map fun i => (b + 2 ^ k) + i := by
  have e3 : 2 ^ (k + 1) = 2 ^ k + 2 ^ k := by rw [Nat.pow_succ]; omega
  refine List.ext_getElem? fun i => ?_
  rw [List.getElem?_drop]
  by_cases c : i < 2 ^ k
  · rw [List.getElem?_map, List.getElem?_map, List.getElem?_range (by omega), List.getElem?_range c]
    show some (b + (2 ^ k + i)) = some (b + 2 ^ k + i)
    rw [Nat.add_assoc]
  · rw [List.getElem?_eq_none (by rw [List.length_map, List.length_range]; omega), List.getElem?_eq_none (by rw [List.length_map, List.length_range]; omega)]
def spLcl (K : PySem.W.Frag) (n : Nat) : Sp := fun vs H Q _ => ∃ b m : Nat, vs = [.int b, .int ((2 ^ m : Nat) : Int)] ∧ m < n ∧ m ≤ 3 ∧ ∀ T H', Same H H' → MgAt H' T (cl m ((List.range (2 ^ m)).map fun i => b + i)) → Q (.ref T) H'
theorem _law_counted_z (vs : List V) (H : Hp) (Q : VK) (E : XK) : ¬ spLcl K 0 vs H Q E := by
  rintro ⟨b, m, _, h, _⟩
  omega
theorem k__law_counted_rec (D : Df K mg "_law_counted" s__law_counted ["_law_begin", "_law_many"]) (D__law_merged : Dn P w K mg base 5 "_law_merged" ["_law_one", "_law_other"] ((spMerged K) 4)) : ∀ n : Nat, Dn P w K mg base (6 + n) "_law_counted" ["_law_begin", "_law_many"] ((spLcl K) n) := by
  intro n
  induction n with
  | zero => exact D.ok fun f fd F => ⟨fun vs H Q E h => (_law_counted_z B vs H Q E h).elim, fun _ _ _ _ h => (_law_counted_z B _ _ _ _ h).elim⟩
  | succ n D__law_counted =>
    refine D.ok fun f fd F => okG0 (k := 6 + n) F sc__law_counted (fun vs H Q E h => ?_) (fun cdv A outer s H vs Q E hr h => ⟨_, (pss_cons (ps_if (pt_cmpR op_eq (pv 1) pe_int (nomark _))
      (pss_one (ps_ret (pe_tup (pa_cons (pe_lst pa_nil) (pa_cons (pe_lst (pa_cons (pv 0) pa_nil)) pa_nil)))))
      pss_nil)
    (pss_cons (ps_asg (pe_cD D__law_counted (hr.less (by omega)) rfl (pa_cons (pv 0) (pa_cons (pe_op op_fdivW (pv 1) pe_int) pa_nil))) (kk (K := K) (F := fun K => gTup K 2 _) (P := PG _ _) (pg_tup rfl (pgs_cons (pg_name (i := 2) sc__law_counted.nd rfl (Or.inl rfl)) (pgs_cons (pg_name (i := 3) sc__law_counted.nd rfl (Or.inl rfl)) pgs_nil)))))
    (pss_cons (ps_asg (pe_cD D__law_counted (hr.less (by omega)) rfl (pa_cons (pe_op op_add (pv 0) (pe_op op_fdivW (pv 1) pe_int)) (pa_cons (pe_op op_fdivW (pv 1) pe_int) pa_nil))) (kk (K := K) (F := fun K => gTup K 2 _) (P := PG _ _) (pg_tup rfl (pgs_cons (pg_name (i := 4) sc__law_counted.nd rfl (Or.inl rfl)) (pgs_cons (pg_name (i := 5) sc__law_counted.nd rfl (Or.inl rfl)) pgs_nil)))))
    (pss_cons (ps_asg (pe_cD D__law_merged (hr.less (by omega)) rfl (pa_cons (pv 3) (pa_cons (pv 5) pa_nil))) (kk (K := K) (F := fun K => gTup K 2 _) (P := PG _ _) (pg_tup rfl (pgs_cons (pg_name (i := 6) sc__law_counted.nd rfl (Or.inl rfl)) (pgs_cons (pg_name (i := 7) sc__law_counted.nd rfl (Or.inl rfl)) pgs_nil)))))
    (pss_one (ps_ret (pe_tup (pa_cons (pe_op op_cat (pe_op op_cat (pv 2) (pv 4)) (pv 6)) (pa_cons (pv 7) pa_nil))))))))), ?_⟩)
    · obtain ⟨b, m, rfl, _⟩ := h; rfl
    · obtain ⟨b, m, rfl, hm, h3, q⟩ := h
      refine ⟨_, rfl, rfl, _, rfl, ite2 (fun c => ?_) (fun c => ?_)⟩
      · have hm0 : m = 0 := by
          have e := V.int.inj (of_decide_eq_true c)
          rcases Nat.eq_zero_or_pos m with e2 | e2
          · exact e2
          · have := Nat.one_lt_two_pow (n := m) (by omega); omega
        subst hm0
        refine ⟨sz, fun L1 hL1 => ⟨_, rfl, sz, fun L2 hL2 => ⟨sz, fun T hT => ?_⟩⟩⟩
        have S1 := same_new hL1 (.lst [])
        have S2 := same_new hL2 (.lst [.int b])
        have S3 := same_new hT (.tup [.ref L1, .ref L2])
        exact q T _ (S1.trans (S2.trans S3)) ⟨L1, L2, upd_same, ⟨[], S3 _ _ (S2 _ _ upd_same), rfl, fun j t p h => by simp at h⟩, S3 _ _ upd_same⟩
      · obtain ⟨k, rfl⟩ : ∃ k, m = k + 1 := by
          rcases Nat.eq_zero_or_pos m with e2 | e2
          · subst e2
            exact absurd (decide_eq_true rfl) c
          · exact ⟨m - 1, by omega⟩
        obtain ⟨e1, e2⟩ := two_pow_even k
        have eh : ((2 ^ (k + 1) : Nat) : Int) / 2 = ((2 ^ k : Nat) : Int) := by omega
        have a1 : ((List.range (2 ^ k)).map fun i => b + i).length = 2 ^ k := by rw [List.length_map, List.length_range]
        have a2 : ((List.range (2 ^ k)).map fun i => (b + 2 ^ k) + i).length = 2 ^ k := by rw [List.length_map, List.length_range]
        have hcl : cl (k + 1) ((List.range (2 ^ (k + 1))).map fun i => b + i) = ((cl k ((List.range (2 ^ k)).map fun i => b + i)).1 ++ (cl k ((List.range (2 ^ k)).map fun i => (b + 2 ^ k) + i)).1 ++ (mgd k (cl k ((List.range (2 ^ k)).map fun i => b + i)).2 (cl k ((List.range (2 ^ k)).map fun i => (b + 2 ^ k) + i)).2).1, (mgd k (cl k ((List.range (2 ^ k)).map fun i => b + i)).2 (cl k ((List.range (2 ^ k)).map fun i => (b + 2 ^ k) + i)).2).2) := by
          have h0 : ∀ ls, cl (k + 1) ls = ((cl k (ls.take (2 ^ k))).1 ++ (cl k (ls.drop (2 ^ k))).1 ++ (mgd k (cl k (ls.take (2 ^ k))).2 (cl k (ls.drop (2 ^ k))).2).1, (mgd k (cl k (ls.take (2 ^ k))).2 (cl k (ls.drop (2 ^ k))).2).2) := fun _ => rfl
          rw [h0, rg_take, rg_drop]
        rw [hcl] at q
        refine ⟨_, rfl, _, rfl, _, _, rfl, rfl, ⟨by decide, by decide⟩, b, k, ?_, by omega, by omega, fun T1 H1 S1 hT1 => ?_⟩
        · show [V.int (b : Int), V.int (((2 ^ (k + 1) : Nat) : Int) / 2)] = _
          rw [eh]
        obtain ⟨L1, U1, hT1, hL1, hU1⟩ := hT1
        refine ⟨T1, _, rfl, SqT.of hT1, rfl, _, _, rfl, _, _, rfl, rfl, ?_⟩
        refine ⟨_, rfl, _, rfl, _, _, rfl, rfl, ⟨by decide, by decide⟩, _, _, rfl, rfl, _, rfl, _, _, rfl, rfl, ⟨by decide, by decide⟩, b + 2 ^ k, k, ?_, by omega, by omega, fun T2 H2 S2 hT2 => ?_⟩
        · show [V.int ((b : Int) + ((2 ^ (k + 1) : Nat) : Int) / 2), V.int (((2 ^ (k + 1) : Nat) : Int) / 2)] = _
          rw [eh] <;> rfl
        obtain ⟨L2, U2, hT2, hL2, hU2⟩ := hT2
        refine ⟨T2, _, rfl, SqT.of hT2, rfl, _, _, rfl, _, _, rfl, rfl, ?_⟩
        refine ⟨_, rfl, _, rfl, U1, U2, _, _, k, rfl, S2 _ _ hU1, hU2, cl_len k a1, cl_len k a2, by omega, by omega, fun T3 H3 S3 hT3 => ?_⟩
        obtain ⟨L3, U3, hT3, hL3, hU3⟩ := hT3
        refine ⟨T3, _, rfl, SqT.of hT3, rfl, _, _, rfl, _, _, rfl, rfl, ?_⟩
        obtain ⟨t1s, hL1a, hL1b⟩ := (hL1.same S2).same S3
        obtain ⟨t2s, hL2a, hL2b⟩ := hL2.same S3
        obtain ⟨t3s, hL3a, hL3b⟩ := hL3
        have c1 := hL1b.1
        have c2 := hL2b.1
        have c3 := hL3b.1
        have d1 := cl_tog k (by omega) a1
        have d2 := cl_tog k (by omega) a2
        have d3 := mg_tog k (cl_len k a1) (cl_len k a2)
        have hkm : (k + 1) * 2 ^ k ≤ 3 * 2 ^ 2 := Nat.mul_le_mul (by omega) (Nat.pow_le_pow_right (by decide) (by omega))
        refine ⟨_, rfl, _, rfl, L1, L2, _, _, rfl, rfl, hL1a, hL2a, small (by rw [List.length_map, List.length_map]; omega), fun L hL => ?_⟩
        have S6 := same_new hL (.lst (t1s.map V.ref ++ t2s.map V.ref))
        refine ⟨_, rfl, L, L3, _, _, rfl, rfl, upd_same, S6 _ _ hL3a, small (by rw [List.length_append, List.length_map, List.length_map, List.length_map]; omega), fun M hM => ?_⟩
        have S7 := same_new hM (.lst ((t1s.map V.ref ++ t2s.map V.ref) ++ t3s.map V.ref))
        refine ⟨_, rfl, sz, fun T hT => ?_⟩
        have S8 := same_new hT (.tup [.ref M, .ref U3])
        have S68 := S6.trans (S7.trans S8)
        refine q T _ (S1.trans (S2.trans (S3.trans S68))) ⟨M, U3, upd_same, ⟨t1s ++ t2s ++ t3s, ?_, ((hL1b.same S68).app (hL2b.same S68)).app (hL3b.same S68)⟩, S68 _ _ hU3⟩
        rw [S8 _ _ upd_same, List.map_append, List.map_append]
theorem k__law_counted (D : Df K mg "_law_counted" s__law_counted ["_law_begin", "_law_many"]) (D__law_merged : Dn P w K mg base 5 "_law_merged" ["_law_one", "_law_other"] ((spMerged K) 4)) : Dn P w K mg base 10 "_law_counted" ["_law_begin", "_law_many"] ((spLcl K) 4) := k__law_counted_rec B D D__law_merged 4
def psd (w : Nat) : List (Nat × Nat) → Nat × Nat → Nat × Nat
  | [], s => s
  | p :: r, (l, c) => if l = p.1 ∨ l = p.2 then psd w r (if w = 0 then p.1 else p.2, c + 1) else psd w r (l, c)
omit B in
theorem psd_snoc (w : Nat) (p : Nat × Nat) : ∀ (ps : List (Nat × Nat)) (s : Nat × Nat), psd w (ps ++ [p]) s = psd w [p] (psd w ps s)
  | [], _ => rfl
  | x :: r, (l, c) => by
    show (if l = x.1 ∨ l = x.2 then psd w (r ++ [p]) _ else psd w (r ++ [p]) _) = psd w [p] (if l = x.1 ∨ l = x.2 then psd w r _ else psd w r _)
    split
    · exact psd_snoc w p r _
    · exact psd_snoc w p r _
omit B in
theorem in_pair {l a b : Nat} : inV (.int (l : Nat)) [.int (a : Nat), .int (b : Nat)] = decide (l = a ∨ l = b) := by
  have h : ∀ x y : Nat, eqV (.int (x : Nat)) (.int (y : Nat)) = decide (y = x) := fun x y => by
    show ((x : Int) == (y : Int)) = _
    by_cases c : y = x
    · subst c; simp
    · rw [decide_eq_false c]; simp; omega
  show (eqV (.int (a : Nat)) (.int (l : Nat)) || (eqV (.int (b : Nat)) (.int (l : Nat)) || false)) = _
  rw [h, h, Bool.or_false]
  by_cases c1 : l = a <;> by_cases c2 : l = b <;> simp [c1, c2]
def spPassed (K : PySem.W.Frag) : Sp := fun vs H Q _ => ∃ (U : Addr) (ps : List (Nat × Nat)) (l w : Nat), vs = [.ref U, .int l, .int w] ∧ PTu H U ps ∧ w < 2 ∧ Q (.int ((psd w ps (l, 0)).2 : Nat)) H
theorem k__law_passed (D : Df K mg "_law_passed" s__law_passed ["_law_pairs", "_law_line", "_law_which"]) : Dn P w K mg base 1 "_law_passed" ["_law_pairs", "_law_line", "_law_which"] (spPassed K) := by
  refine D.ok fun f fd F => okG0 F sc__law_passed (fun vs H Q E h => ?_) (fun cdv A outer s H vs Q E hr h => ⟨_, (pss_cons (ps_set (i := 3) sc__law_passed.nd rfl (Or.inl rfl) pe_int)
    (pss_cons (ps_for PassesOwn.never rfl (kk (K := K) (F := fun K => iTup K _) (P := PI _ _ _) (pi_tup (pv 0))) (pg_name (i := 4) sc__law_passed.nd rfl (Or.inl rfl))
      (pss_one (ps_if (pt_cmpR (kk (K := K) (F := fun K => rIn K false) (P := OpR _ _) op_in_seq) (pv 1) (pv 4) (by rfl))
       (pss_cons (ps_set (i := 1) sc__law_passed.nd rfl (Or.inl rfl) (pe_ix (kk (K := K) (F := rIxT) (P := IxR _) ix_tup) (pv 4) (pv 2) (fun _ _ => rfl)))
       (pss_one (ps_set (i := 3) sc__law_passed.nd rfl (Or.inl rfl) (pe_op op_add (pv 3) pe_int))))
       pss_nil)))
    (pss_one (ps_ret (pv 3))))), ?_⟩)
  · obtain ⟨U, ps, l, w, rfl, _⟩ := h; rfl
  · obtain ⟨U, ps, l, w, rfl, ⟨ts, hU, hpt⟩, hw, q⟩ := h
    refine ⟨_, rfl, U, rfl, ⟨_, SqT.of hU⟩, ?_⟩
    refine for_tup (K := K) (a := U) (xs := ts.map V.ref) (fun i σ H2 => H2 = H ∧ ∃ v4 : Option V, σ = [some (.ref U), some (.int ((psd w (ps.take i) (l, 0)).1 : Nat)), some (.int (w : Nat)), some (.int ((psd w (ps.take i) (l, 0)).2 : Nat)), v4]) ⟨rfl, none, rfl⟩ (fun i σ H2 _ h => by rw [h.1]; exact SqT.of hU) ?_ ?_
    · rintro i y σ H2 hi ⟨rfl, v4, rfl⟩
      rw [List.getElem?_map] at hi
      obtain ⟨t, ht, rfl⟩ := Option.map_eq_some_iff.mp hi
      have hil := (List.getElem?_eq_some_iff.mp ht).1
      have hil2 : i < ps.length := by rw [← hpt.1]; exact hil
      have htp := hpt.2 i t ps[i] ht (List.getElem?_eq_getElem hil2)
      have et : ps.take (i + 1) = ps.take i ++ [ps[i]] := by rw [List.take_succ, List.getElem?_eq_getElem hil2] <;> rfl
      have ep := psd_snoc w ps[i] (ps.take i) (l, 0)
      rw [← et] at ep
      generalize psd w (ps.take i) (l, 0) = s at ep
      obtain ⟨l', c⟩ := s
      refine ⟨_, rfl, _, rfl, t, _, rfl, .inr (SqT.of htp), rfl, rfl, _, rfl, ?_⟩
      show if inV (.int (l' : Nat)) [.int (ps[i].1 : Nat), .int (ps[i].2 : Nat)] = true then _ else _
      rw [in_pair]
      refine ite2 (fun c1 => ?_) (fun c1 => ?_)
      · have c1' := of_decide_eq_true c1
        have e : psd w [ps[i]] (l', c) = (if w = 0 then ps[i].1 else ps[i].2, c + 1) := by
          show (if l' = ps[i].1 ∨ l' = ps[i].2 then psd w [] _ else _) = _
          rw [if_pos c1'] <;> rfl
        rw [ep, e]
        obtain rfl | rfl : w = 0 ∨ w = 1 := by omega
        · exact ⟨_, rfl, _, rfl, t, _, _, _, rfl, rfl, SqT.of htp, at_of (j := 0) rfl rfl, _, rfl, _, _, rfl, rfl, rfl, _, rfl⟩
        · exact ⟨_, rfl, _, rfl, t, _, _, _, rfl, rfl, SqT.of htp, at_of (j := 1) rfl rfl, _, rfl, _, _, rfl, rfl, rfl, _, rfl⟩
      · have c1' : ¬ (l' = ps[i].1 ∨ l' = ps[i].2) := fun z => c1 (decide_eq_true z)
        have e : psd w [ps[i]] (l', c) = (l', c) := by
          show (if l' = ps[i].1 ∨ l' = ps[i].2 then _ else psd w [] _) = _
          rw [if_neg c1'] <;> rfl
        rw [ep, e]
        exact ⟨rfl, _, rfl⟩
    · rintro σ H2 ⟨rfl, v4, rfl⟩
      rw [List.length_map, hpt.1, List.take_length]
      exact ⟨_, rfl, q⟩
omit B in
theorem pw_unique : ∀ {xs ys : List Int}, xs.Perm ys → xs.Pairwise (· ≤ ·) → ys.Pairwise (· ≤ ·) → xs = ys := by
  intro xs ys h h1 h2
  exact h.eq_of_pairwise (fun a b _ _ h1 h2 => Int.le_antisymm h1 h2) h1 h2
omit B in
theorem range_pw (n : Nat) : (iN (List.range n)).Pairwise (· ≤ ·) := by
  unfold iN
  rw [List.pairwise_map]
  exact List.Pairwise.imp (fun h => by omega) List.pairwise_lt_range
omit B in
theorem net_perm : ∀ k, k < 4 → ((iN (cl k (List.range (2 ^ k))).2).isPerm (iN (List.range (2 ^ k)))) = true := by decide +kernel
omit B in
theorem net_many : ∀ k, k < 4 → 4 * (((cl k (List.range (2 ^ k))).1.length : Nat) : Int) = (k : Int) * ((k : Int) + 1) * (2 ^ k : Nat) := by decide +kernel
omit B in
theorem net_unlike : ∀ k, k < 4 → (cl k (List.range (2 ^ k))).1.all (fun p => decide (p.1 ≠ p.2)) = true := by decide +kernel
omit B in
theorem net_passed : ∀ k, k < 4 → ∀ l, l < 2 ^ k → ∀ w, w < 2 → 2 * (((psd w (cl k (List.range (2 ^ k))).1 (l, 0)).2 : Nat) : Int) = (k : Int) * ((k : Int) + 1) := by decide +kernel
omit B in
theorem net_len : ∀ k, k < 4 → (cl k (List.range (2 ^ k))).1.length ≤ 100 ∧ (cl k (List.range (2 ^ k))).2.length = 2 ^ k := by decide +kernel
omit B in
theorem repF_len {n : Nat} : ((List.replicate n false).map V.bl).length = n := by rw [List.length_map, List.length_replicate]
omit B in
theorem repF_snoc {n : Nat} : (List.replicate n false).map V.bl ++ [V.bl false] = (List.replicate (n + 1) false).map V.bl := by rw [List.replicate_succ', List.map_append] <;> rfl
omit B in
theorem repF_any (n : Nat) : (List.replicate n false).any id = false := by
  induction n with
  | zero => rfl
  | succ n ih => rw [List.replicate_succ, List.any_cons, ih] <;> rfl
def pdD (ps : List (Nat × Nat)) : PyData := .tuple (ps.map fun p => .tuple [.int (p.1 : Nat), .int (p.2 : Nat)])
omit B in
theorem pdD_dep : ∀ ps : List (Nat × Nat), PyData.depthAll (ps.map fun p => .tuple [.int (p.1 : Nat), .int (p.2 : Nat)]) ≤ 5 ∧ PyData.canLayAll0 (ps.map fun p => .tuple [.int (p.1 : Nat), .int (p.2 : Nat)]) = true
  | [] => ⟨Nat.zero_le _, rfl⟩
  | p :: r => by
    obtain ⟨h1, h2⟩ := pdD_dep r
    refine ⟨?_, ?_⟩
    · simp only [List.map_cons, PyData.depthAll, PyData.depth]; omega
    · simp only [List.map_cons, PyData.canLayAll0, PyData.canLay0, h2, Bool.and_self]
omit B in
theorem pdD_sh (ps : List (Nat × Nat)) : SeqAt.shaped (pdD ps) = true := by
  obtain ⟨h1, h2⟩ := pdD_dep ps
  unfold SeqAt.shaped pdD
  simp only [PyData.canLay0, h2, PyData.depth, Bool.true_and]
  exact decide_eq_true (by omega)
omit B in
theorem pdD_refl (ps : List (Nat × Nat)) : PyData.eqv (pdD ps) (pdD ps) = true := SeqAt.eqv_refl _ (SeqAt.canLay_of_shaped (pdD_sh ps))
omit B in
theorem pts_dp {H : Hp} : ∀ {ts : List Addr} {ps : List (Nat × Nat)}, PtsAt H ts ps → DpAll K H (ts.map V.ref) (ps.map fun p => .tuple [.int (p.1 : Nat), .int (p.2 : Nat)])
  | [], [], _ => .nil
  | [], _ :: _, h => nomatch h.1
  | _ :: _, [], h => nomatch h.1
  | t :: ts, p :: ps, h => .cons (.tup (SqT.of (h.2 0 t p rfl rfl)) (.cons (.int _) (.cons (.int _) .nil))) (pts_dp ⟨Nat.succ.inj h.1, fun j t' p' h1 h2 => h.2 (j + 1) t' p' h1 h2⟩)
omit B in
theorem ptu_dp {H : Hp} {U : Addr} {ps : List (Nat × Nat)} (h : PTu H U ps) : Dp K H (.ref U) (pdD ps) := by
  obtain ⟨ts, h1, h2⟩ := h
  exact .tup (SqT.of h1) (pts_dp h2)
def spLaw (K : PySem.W.Frag) : Sp := fun vs H Q _ => ∃ (a : Addr) (ns : List Int), vs = [.ref a] ∧ SqL K H a (ns.map V.int) ∧ ns.length ≤ 63 ∧ ∀ H', Q (.bl true) H'
theorem k_law {f : Addr} {fd : FuncData} (F : Fun K "law" "law" s_law f fd) (D__law_pot : Dn P w K mg base 2 "_law_pot" ["_law_script", "_law_k"] (spPot K)) (D__law_draw : Dn P w K mg base 1 "_law_draw" ["_law_pot_here", "_law_many"] spTake) (D_toggles : Dn P w K mg base 13 "toggles" ["k"] (spToggles K)) (D_counted : Dn P w K mg base 13 "counted" ["k"] (spCounted K)) (D__law_counted : Dn P w K mg base 10 "_law_counted" ["_law_begin", "_law_many"] ((spLcl K) 4)) (D__law_passed : Dn P w K mg base 1 "_law_passed" ["_law_pairs", "_law_line", "_law_which"] (spPassed K)) : FnG P w K mg base CX0 20 f fd ["_law_script"] (spLaw K) := by
  refine okG0 F sc_law (fun vs H Q E h => ?_) (fun cdv A outer s H vs Q E hr h => ⟨_, (pss_cons (ps_for PassesOwn.never rfl (pi_range1 (by rfl) B.range_ (pa_cons (pe_callB (call_max2 rfl) (by rfl) B.max_ (by decide +kernel) (pa_cons pe_int (pa_cons (pe_callB (call_min2 rfl) (by rfl) B.min_ (by decide +kernel) (pa_cons pe_int (pa_cons (pe_callB (lenK (K := K)) (by rfl) B.len_ (by decide +kernel) (pa_cons (pv 0) pa_nil)) pa_nil))) pa_nil))) pa_nil)) (pg_name (i := 1) sc_law.nd rfl (Or.inl rfl))
      (pss_cons (ps_set (i := 2) sc_law.nd rfl (Or.inl rfl) (pe_cD D__law_pot (hr.less (by decide)) rfl (pa_cons (pv 0) (pa_cons (pv 1) pa_nil))))
      (pss_cons (ps_set (i := 3) sc_law.nd rfl (Or.inl rfl) (pe_cD D__law_draw (hr.less (by decide)) rfl (pa_cons (pv 2) (pa_cons pe_int pa_nil))))
      (pss_cons (ps_set (i := 4) sc_law.nd rfl (Or.inr rfl) (pe_cD D__law_draw (hr.less (by decide)) rfl (pa_cons (pv 2) (pa_cons (pe_op op_shlW pe_int (pv 3)) pa_nil))))
      (pss_cons (ps_asg (pe_tup (pa_cons (pe_cD D_toggles (hr.less (by decide)) rfl (pa_cons (pv 3) pa_nil)) (pa_cons (pe_cD D_counted (hr.less (by decide)) rfl (pa_cons (pv 3) pa_nil)) pa_nil))) (kk (K := K) (F := fun K => gTup K 2 _) (P := PG _ _) (pg_tup rfl (pgs_cons (pg_name (i := 5) sc_law.nd rfl (Or.inr rfl)) (pgs_cons (pg_name (i := 6) sc_law.nd rfl (Or.inl rfl)) pgs_nil)))))
      (pss_cons (ps_asg (pe_cD D__law_counted (hr.less (by decide)) rfl (pa_cons pe_int (pa_cons (pe_op op_shlW pe_int (pv 3)) pa_nil))) (kk (K := K) (F := fun K => gTup K 2 _) (P := PG _ _) (pg_tup rfl (pgs_cons (pg_name (i := 7) sc_law.nd rfl (Or.inl rfl)) (pgs_cons (pg_name (i := 8) sc_law.nd rfl (Or.inl rfl)) pgs_nil)))))
      (pss_cons (ps_if (PW.pt (pw_or (pt_cmpR (kk (K := K) (F := rNeD) (P := OpR _ _) (op_neD hr.units)) (pv 5) (pe_callTy (tupOfK (K := K)) (by rfl) B.tuple_ (by decide +kernel) (pa_cons (pv 7) pa_nil)) (nomark _)) (pw_or (pt_cmpR (kk (K := K) (F := rNeD) (P := OpR _ _) (op_neD hr.units)) (pv 6) (pe_callTy (tupOfK (K := K)) (by rfl) B.tuple_ (by decide +kernel) (pa_cons (pv 8) pa_nil)) (nomark _)) (pw_or1 (pt_cmpR (kk (K := K) (F := rNeD) (P := OpR _ _) (op_neD hr.units)) (pe_callB (kk (K := K) (F := rSortedIT) (P := CallR _ _) cr_sortedIT) (by rfl) B.sorted_ (by decide +kernel) (pa_cons (pv 6) pa_nil)) (pe_listRg rfl (by rfl) B.list_ (prg_1 rfl B.range_ (pe_op op_shlW pe_int (pv 3)))) (nomark _))))))
        (pss_one (ps_ret pe_bl))
        pss_nil)
      (pss_cons (ps_if (PW.pt (pw_or (pt_cmpR op_ne (pe_op op_mulX pe_int (pe_callB (lenK (K := K)) (by rfl) B.len_ (by decide +kernel) (pa_cons (pv 5) pa_nil))) (pe_op op_mulX (pe_op op_mulX (pv 3) (pe_op op_add (pv 3) pe_int)) (pe_op op_shlW pe_int (pv 3))) (nomark _)) (pw_or1 (pt_val (pe_callB (kk (K := K) (F := rAny) (P := CallR _ _) (cr_any rfl)) (by rfl) B.any_ (by decide +kernel) (pa_cons (pe_lc (own := [("_law_one", 9), ("_law_other", 10)]) (tt := tYes) rfl sc_law.nd (kk (K := K) (F := fun K => iTup K _) (P := PI _ _ _) (pi_tup (pv 5))) (blkOk_by (own := [("_law_one", 9), ("_law_other", 10)]) (N := ["_law_script", "_law_k", "_law_pot_here", "_law_depth", "_law_line", "_law_pairs", "_law_row", "_law_due", "_law_lines", "_law_one", "_law_other", "_law_which"]) (sc := defScope s_law) (by decide +kernel)) (fun _ _ _ _ _ => (kk (K := K) (F := fun K => gTup K 2 _) (P := PG _ _) (pg_tup rfl (pgs_cons (pg_name (i := 9) sc_law.nd rfl (Or.inl rfl)) (pgs_cons (pg_name (i := 10) sc_law.nd rfl (Or.inl rfl)) pgs_nil))))) (fun _ _ _ _ _ => pts_nil) (fun _ _ _ _ _ => (pe_cmpR op_eq (pv 9) (pv 10) (nomark _)))) pa_nil))))))
        (pss_one (ps_ret pe_bl))
        pss_nil)
      (pss_cons (ps_if (pt_cmpR (kk (K := K) (F := rNeD) (P := OpR _ _) (op_neD hr.units)) (pe_lc (own := [("_law_which", 11)]) (g := gName 11) (tt := tYes) rfl sc_law.nd (pi_range1 (by rfl) B.range_ (pa_cons pe_int pa_nil)) (blkOk_by (own := [("_law_which", 11)]) (N := ["_law_script", "_law_k", "_law_pot_here", "_law_depth", "_law_line", "_law_pairs", "_law_row", "_law_due", "_law_lines", "_law_one", "_law_other", "_law_which"]) (sc := defScope s_law) (by decide +kernel)) (fun _ _ _ _ _ => (pg_name (i := 11) sc_law.nd rfl (Or.inl rfl))) (fun _ _ _ _ _ => pts_nil) (fun _ _ _ _ _ => (pe_op op_mulX pe_int (pe_cD D__law_passed (hr.less (by decide)) rfl (pa_cons (pv 5) (pa_cons (pv 4) (pa_cons (pv 11) pa_nil))))))) (pe_op op_rep (pe_lst (pa_cons (pe_op op_mulX (pv 3) (pe_op op_add (pv 3) pe_int)) pa_nil)) pe_int) (nomark _))
        (pss_one (ps_ret pe_bl))
        pss_nil)
      (pss_one (ps_if (PW.pt (pw_or (pt_cmpR (kk (K := K) (F := rNeD) (P := OpR _ _) (op_neD hr.units)) (pe_cD D_toggles (hr.less (by decide)) rfl (pa_cons (pv 3) pa_nil)) (pv 5) (nomark _)) (pw_or1 (pt_cmpR (kk (K := K) (F := rNeD) (P := OpR _ _) (op_neD hr.units)) (pe_cD D_counted (hr.less (by decide)) rfl (pa_cons (pv 3) pa_nil)) (pv 6) (nomark _)))))
       (pss_one (ps_ret pe_bl))
       pss_nil)))))))))))
    (pss_one (ps_ret pe_bl))), ?_⟩)
  · obtain ⟨a, ns, rfl, _⟩ := h; rfl
  · obtain ⟨a, ns, rfl, hs, hn, q⟩ := h
    refine ⟨_, rfl, a, _, rfl, .inl hs, _, _, rfl, _, _, rfl, _, rfl, ?_, ?_, ?_⟩
    · split <;> split <;> omega
    · split <;> split <;> omega
    have hN : (if (if (((ns.map V.int).length : Nat) : Int) < 4 then (((ns.map V.int).length : Nat) : Int) else 4) > 1 then (if (((ns.map V.int).length : Nat) : Int) < 4 then (((ns.map V.int).length : Nat) : Int) else 4) else 1).toNat ≤ 4 := by split <;> split <;> omega
    generalize (if (if (((ns.map V.int).length : Nat) : Int) < 4 then (((ns.map V.int).length : Nat) : Int) else 4) > 1 then (if (((ns.map V.int).length : Nat) : Int) < 4 then (((ns.map V.int).length : Nat) : Int) else 4) else 1).toNat = n at hN
    refine for_range (lo := 0) (n := n) (fun i σ H2 => ∃ v1 v2 v3 v4 v5 v6 v7 v8 v9 v10 v11 : Option V, σ = [some (.ref a), v1, v2, v3, v4, v5, v6, v7, v8, v9, v10, v11] ∧ Same H H2) ⟨none, none, none, none, none, none, none, none, none, none, none, rfl, Same.refl H⟩ ?_ ?_
    · rintro i σ H2 hi ⟨v1, v2, v3, v4, v5, v6, v7, v8, v9, v10, v11, rfl, S2⟩
      refine ⟨_, rfl, _, rfl, a, ns, i, by show [V.ref a, V.int (0 + (i : Int))] = _; rw [Int.zero_add], S2.seq hs, by omega, fun p H3 np S3 p3 => ?_⟩
      refine ⟨_, rfl, p, 4, rfl, p3, by decide, by decide, fun d H4 d0 d4 b4 p4 => ?_⟩
      obtain ⟨k, rfl⟩ : ∃ k : Nat, d = (k : Int) := ⟨d.toNat, by omega⟩
      have hk : k ≤ 3 := by omega
      have e0 := Int.natCast_nonneg (2 ^ k)
      have eM : 2 ^ k ≤ 8 := (Nat.pow_le_pow_right (by decide) hk : 2 ^ k ≤ 2 ^ 3)
      refine ⟨_, rfl, _, rfl, _, _, rfl, rfl, shl_ok (by omega), p, _, rfl, p4, ?_, ?_, fun l' H5 l0 l1 b5 p5 => ?_⟩
      · rw [shl_eq]; have := Nat.two_pow_pos k; omega
      · rw [shl_eq]; omega
      rw [shl_eq] at l1
      obtain ⟨l, rfl⟩ : ∃ l : Nat, l' = (l : Int) := ⟨l'.toNat, by omega⟩
      have S5 := S2.trans (but_same np S3 (b4.trans b5))
      clear b4 b5 p3 p4 p5 np S3 S2
      obtain ⟨n1, n2⟩ := net_len k (by omega)
      have nt := net_many k (by omega)
      have nu := net_unlike k (by omega)
      have np0 := net_passed k (by omega) l (by omega)
      have nperm := List.isPerm_iff.mp (net_perm k (by omega))
      refine ⟨_, rfl, k, rfl, hk, fun U H6 S6 hU => ⟨_, rfl, k, rfl, hk, fun W H7 S7 hW => ⟨sz, fun tt htt => ⟨tt, _, rfl, SqT.of upd_same, rfl, _, _, rfl, _, _, rfl, rfl, ?_⟩⟩⟩⟩
      have S8 := same_new htt (.tup [.ref U, .ref W])
      refine ⟨_, rfl, _, _, rfl, rfl, shl_ok (by omega), 0, k, ?_, by omega, hk, fun T H9 S9 hT => ?_⟩
      · show [V.int 0, V.int (1 * 2 ^ ((k : Int)).toNat)] = _
        rw [shl_eq] <;> rfl
      have er : (List.range (2 ^ k)).map (fun i => 0 + i) = List.range (2 ^ k) := by
        rw [List.map_congr_left (g := id) fun x _ => Nat.zero_add x, List.map_id]
      rw [er] at hT
      generalize hcl : cl k (List.range (2 ^ k)) = net at *
      obtain ⟨tg, rw0⟩ := net
      obtain ⟨L1, U1, hT, ⟨ts, hL1, hpt⟩, hU1⟩ := hT
      refine ⟨T, _, rfl, SqT.of hT, rfl, _, _, rfl, _, _, rfl, rfl, ?_⟩
      have S79 := S8.trans S9
      have hU9 : PTu H9 U tg := ((hU.same S7).same S79)
      have hW9 : H9 W = some (.tup ((iN rw0).map V.int)) := S79 _ _ hW
      have S9' := S5.trans (S6.trans (S7.trans S79))
      clear S5 S6 S7 S8 S9 S79 hU hW htt
      refine ⟨_, rfl, _, rfl, L1, _, rfl, .inl ⟨SqL.of hL1, fun t1 ht1 => ?_⟩⟩
      have S10 := same_new ht1 (.tup (ts.map V.ref))
      refine ⟨_, _, ptu_dp (hU9.same S10), ptu_dp (ps := tg) ⟨ts, upd_same, hpt.same S10⟩, pdD_sh _, pdD_sh _, ?_⟩
      rw [pdD_refl]
      refine ⟨_, rfl, ifF rfl ?_⟩
      refine ⟨_, rfl, _, rfl, U1, _, rfl, .inl ⟨SqL.of (S10 _ _ hU1), fun t2 ht2 => ?_⟩⟩
      have S11 := same_new ht2 (.tup ((iN rw0).map V.int))
      refine ⟨_, _, tupI_dp (SqT.of (S11 _ _ (S10 _ _ hW9))), tupI_dp (SqT.of upd_same), tupI_sh _, tupI_sh _, ?_⟩
      rw [tupI_refl]
      refine ⟨_, rfl, ifF rfl ?_⟩
      refine ⟨_, rfl, W, _, rfl, SqT.of (S11 _ _ (S10 _ _ hW9)), fun ns' p2 perm pw hp2 => ?_⟩
      have ens := pw_unique (perm.trans nperm) pw (range_pw _)
      subst ens
      refine ⟨_, rfl, _, _, rfl, rfl, shl_ok (by omega), _, rfl, ?_, fun q3 hq3 => ?_⟩
      · rw [shl_eq]; exact RgOk.of_le (by decide) (by omega) (by decide) (by omega)
      have erg : rgV 0 (1 * 2 ^ ((k : Int)).toNat) = (iN (List.range (2 ^ k))).map V.int := by
        unfold rgV iN
        rw [shl_eq, show (((2 ^ k : Nat) : Int) - 0).toNat = 2 ^ k by omega, List.map_map]
        exact List.map_congr_left fun x _ => by rw [Int.zero_add] <;> rfl
      rw [erg]
      have S12 := same_new hp2 (.lst ((iN (List.range (2 ^ k))).map V.int))
      have S13 := same_new hq3 (.lst ((iN (List.range (2 ^ k))).map V.int))
      refine ⟨_, _, lst_dp (SqL.of (S13 _ _ upd_same)), lst_dp (SqL.of upd_same), ints_sh _, ints_sh _, ?_⟩
      rw [ints_refl]
      refine ⟨_, rfl, ifF rfl ?_⟩
      have S913 := S10.trans (S11.trans (S12.trans S13))
      clear S10 S11 S12 S13 hL1 hU1 hT
      obtain ⟨us, hU, hqt⟩ := id hU9
      have hp1 := hqt.1
      have n1' : tg.length ≤ 100 := n1
      have nt' : 4 * ((tg.length : Nat) : Int) = (k : Int) * ((k : Int) + 1) * (2 ^ k : Nat) := nt
      have nu' : tg.all (fun p => decide (p.1 ≠ p.2)) = true := nu
      have hk4 : (k : Int) * ((k : Int) + 1) ≤ 12 ∧ 0 ≤ (k : Int) * ((k : Int) + 1) := by
        obtain rfl | rfl | rfl | rfl : k = 0 ∨ k = 1 ∨ k = 2 ∨ k = 3 := by omega
        all_goals decide
      refine ⟨_, rfl, U, _, rfl, .inr (SqT.of (S913 _ _ hU)), _, _, rfl, rfl, mulx 4 10 (by decide) (by rw [List.length_map]; omega), ?_⟩
      refine ⟨_, rfl, _, rfl, _, _, rfl, rfl, _, _, rfl, rfl, mulx 4 4 (by omega) (by omega), _, rfl, _, _, rfl, rfl, shl_ok (by omega), _, _, rfl, rfl, mulx 5 5 (by omega) (by rw [shl_eq]; omega), rfl, _, rfl, ifF (dec_ne ?_) ?_⟩
      · rw [shl_eq, List.length_map, hp1]
        exact congrArg V.int nt'
      refine ⟨_, rfl, U, rfl, ⟨_, SqT.of (S913 _ _ hU)⟩, fun D hD => ?_⟩
      refine lc_tup (K := K) (a := U) (xs := us.map V.ref) (fun i H2 => Same H9 H2 ∧ H2 D = some (.lst ((List.replicate i false).map V.bl))) ⟨S913.trans (same_new hD _), upd_same⟩ (fun i H2 _ h => SqT.of (h.1 _ _ hU)) ?_ ?_
      · rintro j y H2 hj ⟨S2, hD2⟩
        rw [List.getElem?_map] at hj
        obtain ⟨t, ht, rfl⟩ := Option.map_eq_some_iff.mp hj
        have hil := (List.getElem?_eq_some_iff.mp ht).1
        have hil2 : j < tg.length := by omega
        have htp := S2 _ _ (hqt.2 j t tg[j] ht (List.getElem?_eq_getElem hil2))
        have hne : tg[j].1 ≠ tg[j].2 := by
          have h9 := List.all_eq_true.mp nu' tg[j] (List.getElem_mem hil2)
          exact of_decide_eq_true h9
        refine ⟨t, _, rfl, SqT.of htp, rfl, _, _, rfl, _, _, rfl, rfl, rfl, _, rfl, _, rfl, rfl, ?_⟩
        have e6 : decide (V.int (tg[j].1 : Nat) = V.int (tg[j].2 : Nat)) = false := decide_eq_false fun z => hne (by have := V.int.inj z; omega)
        show ∃ acc, _
        rw [e6]
        exact ⟨_, hD2, by rw [repF_len]; exact small1000 (by omega), but_same (S913.free hD) S2 But.upd, by rw [upd_same, repF_snoc]⟩
      rintro H14 ⟨S14, hD14⟩
      refine ⟨D, _, rfl, SqL.of hD14, _, rfl, ifF (repF_any _) ?_⟩
      have hU14 := hU9.same S14
      have hW14 := S14 _ _ hW9
      -- a token
      refine ⟨_, rfl, by decide, by decide, fun E hE => ?_⟩
      refine lc_range (lo := 0) (n := 2) (fun i H2 => Same H14 H2 ∧ H2 E = some (.lst ((List.replicate i ((k : Int) * ((k : Int) + 1))).map V.int))) ⟨same_new hE _, upd_same⟩ ?_ ?_
      · rintro w H2 hw ⟨S2, hE2⟩
        have np1 := np0 w hw
        have np1' : 2 * (((psd w tg (l, 0)).2 : Nat) : Int) = (k : Int) * ((k : Int) + 1) := np1
        refine ⟨rfl, _, rfl, _, rfl, _, rfl, U, tg, l, w, ?_, hU14.same S2, hw, _, _, rfl, rfl, mulx 2 10 (by decide) (by omega), ?_⟩
        · show [V.ref U, V.int (l : Int), V.int (0 + (w : Int))] = _
          rw [Int.zero_add]
        show ∃ acc, _
        dsimp only
        rw [np1']
        refine ⟨_, hE2, small1000 (by rw [List.length_map, List.length_replicate]; omega), but_same hE S2 But.upd, ?_⟩
        rw [upd_same, List.replicate_succ', List.map_append] <;> rfl
      rintro H15 ⟨S15, hE15⟩
      refine ⟨_, rfl, _, rfl, _, _, rfl, rfl, _, _, rfl, rfl, mulx 4 4 (by omega) (by omega), sz, fun l2 hl2 => ⟨l2, _, _, rfl, rfl, upd_same, by decide, by decide, small (by show 1 * 2 ≤ 1000; decide), fun L hL => ?_⟩⟩
      have S16 := same_new hl2 (.lst [.int ((k : Int) * ((k : Int) + 1))])
      have S17 := same_new hL (.lst ((List.replicate 2 ((k : Int) * ((k : Int) + 1))).map V.int))
      refine ⟨_, _, lst_dp (SqL.of (S17 _ _ (S16 _ _ hE15))), lst_dp (ns := List.replicate 2 ((k : Int) * ((k : Int) + 1))) (SqL.of upd_same), ints_sh _, ints_sh _, ?_⟩
      rw [ints_refl]
      refine ⟨_, rfl, ifF rfl ?_⟩
      have S417 := S15.trans (S16.trans S17)
      refine ⟨_, rfl, k, rfl, hk, fun U2 H18 S18 hU18 => ?_⟩
      rw [hcl] at hU18
      have hU18' : PTu H18 U2 tg := hU18
      refine ⟨_, rfl, _, _, ptu_dp hU18', ptu_dp ((hU14.same S417).same S18), pdD_sh _, pdD_sh _, ?_⟩
      rw [pdD_refl]
      refine ⟨_, rfl, ifF rfl ?_⟩
      refine ⟨_, rfl, k, rfl, hk, fun W2 H19 S19 hW19 => ?_⟩
      rw [hcl] at hW19
      have hW19' : H19 W2 = some (.tup ((iN rw0).map V.int)) := hW19
      refine ⟨_, rfl, _, _, tupI_dp (SqT.of hW19'), tupI_dp (SqT.of (S19 _ _ (S18 _ _ (S417 _ _ hW14)))), tupI_sh _, tupI_sh _, ?_⟩
      rw [tupI_refl]
      refine ⟨_, rfl, ifF rfl ?_⟩
      exact ⟨_, _, _, _, _, _, _, _, _, _, _, rfl, S9'.trans (S14.trans (S417.trans (S18.trans S19)))⟩
    · rintro σ H2 ⟨v1, v2, v3, v4, v5, v6, v7, v8, v9, v10, v11, rfl, S2⟩
      exact q _
end
structure AllD (K : PySem.W.Frag) (mg : Str → Option Value) : Prop where
  d_is_whole : Df K mg "is_whole" s_is_whole ["thing"]
  d_is_within : Df K mg "is_within" s_is_within ["thing", "least", "most"]
  d_want_net : Dfd K mg "want_net" s_want_net ["k", "deepest"] []
  d_merged : Df K mg "merged" s_merged ["one", "other"]
  d_counted_lines : Df K mg "counted_lines" s_counted_lines ["lines"]
  d_counting_net : Df K mg "counting_net" s_counting_net ["k"]
  d_toggles : Df K mg "toggles" s_toggles ["k"]
  d_counted : Df K mg "counted" s_counted ["k"]
  d__law_cell : Df K mg "_law_cell" s__law_cell ["_law_script", "_law_k"]
  d__law_pot : Df K mg "_law_pot" s__law_pot ["_law_script", "_law_k"]
  d__law_draw : Df K mg "_law_draw" s__law_draw ["_law_pot_here", "_law_many"]
  d__law_merged : Df K mg "_law_merged" s__law_merged ["_law_one", "_law_other"]
  d__law_counted : Df K mg "_law_counted" s__law_counted ["_law_begin", "_law_many"]
  d__law_passed : Df K mg "_law_passed" s__law_passed ["_law_pairs", "_law_line", "_law_which"]
  d_law : Df K mg "law" s_law ["_law_script"]
  bl : Bl K mg
theorem all_mk {w : World} {K : PySem.W.Frag} {h : Heap} {mg : Str → Option Value} (X : K.In h) (G : h.Ns mainGlobals mg)
    {f1 f2 f3 f4 f5 f6 f7 f8 f9 f10 f11 f12 f13 f14 f15 : Addr} {od1 an1 od2 an2 od3 an3 od4 an4 od5 an5 od6 an6 od7 an7 od8 an8 od9 an9 od10 an10 od11 an11 od12 an12 od13 an13 od14 an14 od15 an15 : Option Addr} {sl1 sl2 sl3 sl4 sl5 sl6 sl7 sl8 sl9 sl10 sl11 sl12 sl13 sl14 sl15 : Array (Option Value)} {oc1 kV1 dc1 pm1 cd1 ct1 oc2 kV2 dc2 pm2 cd2 ct2 oc3 kV3 dc3 pm3 cd3 ct3 oc4 kV4 dc4 pm4 cd4 ct4 oc5 kV5 dc5 pm5 cd5 ct5 oc6 kV6 dc6 pm6 cd6 ct6 oc7 kV7 dc7 pm7 cd7 ct7 oc8 kV8 dc8 pm8 cd8 ct8 oc9 kV9 dc9 pm9 cd9 ct9 oc10 kV10 dc10 pm10 cd10 ct10 oc11 kV11 dc11 pm11 cd11 ct11 oc12 kV12 dc12 pm12 cd12 ct12 oc13 kV13 dc13 pm13 cd13 ct13 oc14 kV14 dc14 pm14 cd14 ct14 oc15 kV15 dc15 pm15 cd15 ct15 : Value}
    {da3 : Addr}
    (a1 : PySem.W.nsIn K mainGlobals "is_whole" = some (some (.ref f1))) (l1 : K.lookup f1 = some ⟨oc1, od1, .func (PySem.W.fnOf "is_whole" "is_whole" (defArgs s_is_whole) (defBody s_is_whole) (defScope s_is_whole) .none kV1 dc1 pm1 an1 cd1 ct1), sl1⟩) (c1 : PySem.W.codeIn K cd1 "is_whole" = true) (k1 : PySem.W.keepIn K (.ref f1) = true)
    (a2 : PySem.W.nsIn K mainGlobals "is_within" = some (some (.ref f2))) (l2 : K.lookup f2 = some ⟨oc2, od2, .func (PySem.W.fnOf "is_within" "is_within" (defArgs s_is_within) (defBody s_is_within) (defScope s_is_within) .none kV2 dc2 pm2 an2 cd2 ct2), sl2⟩) (c2 : PySem.W.codeIn K cd2 "is_within" = true) (k2 : PySem.W.keepIn K (.ref f2) = true)
    (a3 : PySem.W.nsIn K mainGlobals "want_net" = some (some (.ref f3))) (l3 : K.lookup f3 = some ⟨oc3, od3, .func (PySem.W.fnOf "want_net" "want_net" (defArgs s_want_net) (defBody s_want_net) (defScope s_want_net) (.ref da3) kV3 dc3 pm3 an3 cd3 ct3), sl3⟩) (c3 : PySem.W.codeIn K cd3 "want_net" = true) (k3 : PySem.W.keepIn K (.ref f3) = true)
    {dt3_0 : Tok} {dd3 : Option Addr} {dn3 : Nat} {dz3 : Array (Option Value)} (dl3 : K.lookup da3 = some ⟨.type "tuple", dd3, .seq #[.int 4 dt3_0] dn3, dz3⟩)
    (a4 : PySem.W.nsIn K mainGlobals "merged" = some (some (.ref f4))) (l4 : K.lookup f4 = some ⟨oc4, od4, .func (PySem.W.fnOf "merged" "merged" (defArgs s_merged) (defBody s_merged) (defScope s_merged) .none kV4 dc4 pm4 an4 cd4 ct4), sl4⟩) (c4 : PySem.W.codeIn K cd4 "merged" = true) (k4 : PySem.W.keepIn K (.ref f4) = true)
    (a5 : PySem.W.nsIn K mainGlobals "counted_lines" = some (some (.ref f5))) (l5 : K.lookup f5 = some ⟨oc5, od5, .func (PySem.W.fnOf "counted_lines" "counted_lines" (defArgs s_counted_lines) (defBody s_counted_lines) (defScope s_counted_lines) .none kV5 dc5 pm5 an5 cd5 ct5), sl5⟩) (c5 : PySem.W.codeIn K cd5 "counted_lines" = true) (k5 : PySem.W.keepIn K (.ref f5) = true)
    (a6 : PySem.W.nsIn K mainGlobals "counting_net" = some (some (.ref f6))) (l6 : K.lookup f6 = some ⟨oc6, od6, .func (PySem.W.fnOf "counting_net" "counting_net" (defArgs s_counting_net) (defBody s_counting_net) (defScope s_counting_net) .none kV6 dc6 pm6 an6 cd6 ct6), sl6⟩) (c6 : PySem.W.codeIn K cd6 "counting_net" = true) (k6 : PySem.W.keepIn K (.ref f6) = true)
    (a7 : PySem.W.nsIn K mainGlobals "toggles" = some (some (.ref f7))) (l7 : K.lookup f7 = some ⟨oc7, od7, .func (PySem.W.fnOf "toggles" "toggles" (defArgs s_toggles) (defBody s_toggles) (defScope s_toggles) .none kV7 dc7 pm7 an7 cd7 ct7), sl7⟩) (c7 : PySem.W.codeIn K cd7 "toggles" = true) (k7 : PySem.W.keepIn K (.ref f7) = true)
    (a8 : PySem.W.nsIn K mainGlobals "counted" = some (some (.ref f8))) (l8 : K.lookup f8 = some ⟨oc8, od8, .func (PySem.W.fnOf "counted" "counted" (defArgs s_counted) (defBody s_counted) (defScope s_counted) .none kV8 dc8 pm8 an8 cd8 ct8), sl8⟩) (c8 : PySem.W.codeIn K cd8 "counted" = true) (k8 : PySem.W.keepIn K (.ref f8) = true)
    (a9 : PySem.W.nsIn K mainGlobals "_law_cell" = some (some (.ref f9))) (l9 : K.lookup f9 = some ⟨oc9, od9, .func (PySem.W.fnOf "_law_cell" "_law_cell" (defArgs s__law_cell) (defBody s__law_cell) (defScope s__law_cell) .none kV9 dc9 pm9 an9 cd9 ct9), sl9⟩) (c9 : PySem.W.codeIn K cd9 "_law_cell" = true) (k9 : PySem.W.keepIn K (.ref f9) = true)
    (a10 : PySem.W.nsIn K mainGlobals "_law_pot" = some (some (.ref f10))) (l10 : K.lookup f10 = some ⟨oc10, od10, .func (PySem.W.fnOf "_law_pot" "_law_pot" (defArgs s__law_pot) (defBody s__law_pot) (defScope s__law_pot) .none kV10 dc10 pm10 an10 cd10 ct10), sl10⟩) (c10 : PySem.W.codeIn K cd10 "_law_pot" = true) (k10 : PySem.W.keepIn K (.ref f10) = true)
    (a11 : PySem.W.nsIn K mainGlobals "_law_draw" = some (some (.ref f11))) (l11 : K.lookup f11 = some ⟨oc11, od11, .func (PySem.W.fnOf "_law_draw" "_law_draw" (defArgs s__law_draw) (defBody s__law_draw) (defScope s__law_draw) .none kV11 dc11 pm11 an11 cd11 ct11), sl11⟩) (c11 : PySem.W.codeIn K cd11 "_law_draw" = true) (k11 : PySem.W.keepIn K (.ref f11) = true)
    (a12 : PySem.W.nsIn K mainGlobals "_law_merged" = some (some (.ref f12))) (l12 : K.lookup f12 = some ⟨oc12, od12, .func (PySem.W.fnOf "_law_merged" "_law_merged" (defArgs s__law_merged) (defBody s__law_merged) (defScope s__law_merged) .none kV12 dc12 pm12 an12 cd12 ct12), sl12⟩) (c12 : PySem.W.codeIn K cd12 "_law_merged" = true) (k12 : PySem.W.keepIn K (.ref f12) = true)
    (a13 : PySem.W.nsIn K mainGlobals "_law_counted" = some (some (.ref f13))) (l13 : K.lookup f13 = some ⟨oc13, od13, .func (PySem.W.fnOf "_law_counted" "_law_counted" (defArgs s__law_counted) (defBody s__law_counted) (defScope s__law_counted) .none kV13 dc13 pm13 an13 cd13 ct13), sl13⟩) (c13 : PySem.W.codeIn K cd13 "_law_counted" = true) (k13 : PySem.W.keepIn K (.ref f13) = true)
    (a14 : PySem.W.nsIn K mainGlobals "_law_passed" = some (some (.ref f14))) (l14 : K.lookup f14 = some ⟨oc14, od14, .func (PySem.W.fnOf "_law_passed" "_law_passed" (defArgs s__law_passed) (defBody s__law_passed) (defScope s__law_passed) .none kV14 dc14 pm14 an14 cd14 ct14), sl14⟩) (c14 : PySem.W.codeIn K cd14 "_law_passed" = true) (k14 : PySem.W.keepIn K (.ref f14) = true)
    (a15 : PySem.W.nsIn K mainGlobals "law" = some (some (.ref f15))) (l15 : K.lookup f15 = some ⟨oc15, od15, .func (PySem.W.fnOf "law" "law" (defArgs s_law) (defBody s_law) (defScope s_law) .none kV15 dc15 pm15 an15 cd15 ct15), sl15⟩) (c15 : PySem.W.codeIn K cd15 "law" = true) (k15 : PySem.W.keepIn K (.ref f15) = true)
    (z0 : PySem.W.nsIn K mainGlobals "any" = some none)
    (z1 : PySem.W.nsIn K mainGlobals "bool" = some none)
    (z2 : PySem.W.nsIn K mainGlobals "divmod" = some none)
    (z3 : PySem.W.nsIn K mainGlobals "int" = some none)
    (z4 : PySem.W.nsIn K mainGlobals "isinstance" = some none)
    (z5 : PySem.W.nsIn K mainGlobals "len" = some none)
    (z6 : PySem.W.nsIn K mainGlobals "list" = some none)
    (z7 : PySem.W.nsIn K mainGlobals "max" = some none)
    (z8 : PySem.W.nsIn K mainGlobals "min" = some none)
    (z9 : PySem.W.nsIn K mainGlobals "range" = some none)
    (z10 : PySem.W.nsIn K mainGlobals "sorted" = some none)
    (z11 : PySem.W.nsIn K mainGlobals "tuple" = some none)
    (z12 : PySem.W.nsIn K mainGlobals "zip" = some none)
    {tc0 : Tok} (cst0 : PySem.W.nsIn K mainGlobals "DEEPEST" = some (some (.int 3 tc0)))
    : AllD K mg := by
  exact ⟨Df.of l1 c1 k1 (PySem.W.mg_of X G a1) (fun _ _ _ _ _ _ us hl => match us, hl with | [_], _ => rfl), Df.of l2 c2 k2 (PySem.W.mg_of X G a2) (fun _ _ _ _ _ _ us hl => match us, hl with | [_, _, _], _ => rfl), Dfd.ofAll (n := 2) l3 c3 k3 (PySem.W.mg_of X G a3) dl3 rfl rfl (fun us hl => match us, hl with | [_, _], _ => ⟨_, rfl, rfl⟩), Df.of l4 c4 k4 (PySem.W.mg_of X G a4) (fun _ _ _ _ _ _ us hl => match us, hl with | [_, _], _ => rfl), Df.of l5 c5 k5 (PySem.W.mg_of X G a5) (fun _ _ _ _ _ _ us hl => match us, hl with | [_], _ => rfl), Df.of l6 c6 k6 (PySem.W.mg_of X G a6) (fun _ _ _ _ _ _ us hl => match us, hl with | [_], _ => rfl), Df.of l7 c7 k7 (PySem.W.mg_of X G a7) (fun _ _ _ _ _ _ us hl => match us, hl with | [_], _ => rfl), Df.of l8 c8 k8 (PySem.W.mg_of X G a8) (fun _ _ _ _ _ _ us hl => match us, hl with | [_], _ => rfl), Df.of l9 c9 k9 (PySem.W.mg_of X G a9) (fun _ _ _ _ _ _ us hl => match us, hl with | [_, _], _ => rfl), Df.of l10 c10 k10 (PySem.W.mg_of X G a10) (fun _ _ _ _ _ _ us hl => match us, hl with | [_, _], _ => rfl), Df.of l11 c11 k11 (PySem.W.mg_of X G a11) (fun _ _ _ _ _ _ us hl => match us, hl with | [_, _], _ => rfl), Df.of l12 c12 k12 (PySem.W.mg_of X G a12) (fun _ _ _ _ _ _ us hl => match us, hl with | [_, _], _ => rfl), Df.of l13 c13 k13 (PySem.W.mg_of X G a13) (fun _ _ _ _ _ _ us hl => match us, hl with | [_, _], _ => rfl), Df.of l14 c14 k14 (PySem.W.mg_of X G a14) (fun _ _ _ _ _ _ us hl => match us, hl with | [_, _, _], _ => rfl), Df.of l15 c15 k15 (PySem.W.mg_of X G a15) (fun _ _ _ _ _ _ us hl => match us, hl with | [_], _ => rfl), ⟨PySem.W.mg_none_of X G z0, PySem.W.mg_none_of X G z1, PySem.W.mg_none_of X G z2, PySem.W.mg_none_of X G z3, PySem.W.mg_none_of X G z4, PySem.W.mg_none_of X G z5, PySem.W.mg_none_of X G z6, PySem.W.mg_none_of X G z7, PySem.W.mg_none_of X G z8, PySem.W.mg_none_of X G z9, PySem.W.mg_none_of X G z10, PySem.W.mg_none_of X G z11, PySem.W.mg_none_of X G z12, ⟨_, PySem.W.mg_of X G cst0⟩⟩⟩

theorem law_fd {P : Program} {w : World} {K : PySem.W.Frag} {mg : Str → Option Value} {fa : Addr} (A : AllD K mg) (hfa : mg "law" = some (.ref fa)) :
    ∃ fd : FuncData, (∀ (s : Shared) (v : Value), BindsTo s fd ⟨[v], []⟩ [("_law_script", v)]) ∧ ∀ base : Heap, K.In base → base.Ns mainGlobals mg → FnG P w K mg base CX0 20 fa fd ["_law_script"] (spLaw K) := by
  obtain ⟨f, fd, F, m, b⟩ := A.d_law.ex
  have e := hfa.symm.trans m
  cases e
  refine ⟨fd, fun s v => by obtain ⟨oc, od, kV, doc, pm, an, cdv, ct, osl, rfl, lk, hcd⟩ := F.ex; exact .of_eq rfl, fun base _ _ => ?_⟩
  have B := A.bl
  have D_is_whole : Dn P w K mg base 1 "is_whole" ["thing"] spIsWhole := k_is_whole B A.d_is_whole 
  have D_is_within : Dn P w K mg base 2 "is_within" ["thing", "least", "most"] spIsWithin := k_is_within B A.d_is_within D_is_whole
  have D_want_net : DnD P w K mg base 3 "want_net" ["k", "deepest"] [] spWantNet := k_want_net B A.d_want_net D_is_within
  have D_merged : Dn P w K mg base 5 "merged" ["one", "other"] ((spMerged K) 4) := k_merged B A.d_merged 
  have D_counted_lines : Dn P w K mg base 10 "counted_lines" ["lines"] ((spCl K) 4) := k_counted_lines B A.d_counted_lines D_merged
  have D_counting_net : Dn P w K mg base 12 "counting_net" ["k"] (spNet K) := k_counting_net B A.d_counting_net D_want_net D_counted_lines
  have D_toggles : Dn P w K mg base 13 "toggles" ["k"] (spToggles K) := k_toggles B A.d_toggles D_counting_net
  have D_counted : Dn P w K mg base 13 "counted" ["k"] (spCounted K) := k_counted B A.d_counted D_counting_net
  have D__law_cell : Dn P w K mg base 1 "_law_cell" ["_law_script", "_law_k"] (spCell K) := k__law_cell B A.d__law_cell 
  have D__law_pot : Dn P w K mg base 2 "_law_pot" ["_law_script", "_law_k"] (spPot K) := k__law_pot B A.d__law_pot D__law_cell
  have D__law_draw : Dn P w K mg base 1 "_law_draw" ["_law_pot_here", "_law_many"] spTake := k__law_draw B A.d__law_draw 
  have D__law_merged : Dn P w K mg base 5 "_law_merged" ["_law_one", "_law_other"] ((spMerged K) 4) := k__law_merged B A.d__law_merged 
  have D__law_counted : Dn P w K mg base 10 "_law_counted" ["_law_begin", "_law_many"] ((spLcl K) 4) := k__law_counted B A.d__law_counted D__law_merged
  have D__law_passed : Dn P w K mg base 1 "_law_passed" ["_law_pairs", "_law_line", "_law_which"] (spPassed K) := k__law_passed B A.d__law_passed 
  exact k_law B F D__law_pot D__law_draw D_toggles D_counted D__law_counted D__law_passed

theorem walk {l : PySem.W.OpenLaw} {q : Program} {loose : List Str} {XP : (Str → Option Value) → Heap → Prop} {YP : World → Heap → Prop} {d : DefRec} {K : Params → PySem.W.Frag} (hn : l.most = some 63) (hdf : d.params.defaults = [])
    (hY : ∀ (w : World) (h : Heap), YP w h → (K w.params).In h) (hname : d.name = "law") (F : ∀ (w : World) (mg : Str → Option Value) (h : Heap), (K w.params).In h → h.Ns mainGlobals mg → AllD (K w.params) mg) :
    PySem.W.WalkO q loose XP YP l.row.toRowW d [] (fun f vs => PySem.call f vs) :=
  walk_G (n := 63) (k := 20) (x := "_law_script") (sp := spLaw) hn (by decide) hdf ⟨rfl, by decide, by decide⟩ hY
    (fun w mg fa h KX G hfa => law_fd (F w mg h KX G) (by rw [hname] at hfa; exact hfa)) fun _ _ a ns hl hS => ⟨a, ns, rfl, hS, hl, fun _ => rfl⟩
end Toy
open PySem PySem.W PyProof.Rows
set_option maxRecDepth 100000 in
set_option maxHeartbeats 0 in
theorem PySem.Challenge.cw_joinedasks_k84_toggles_told_holds : PySem.Challenge.rw_joinedasks_k84_toggles_told.Holds := by
  w_on; o_law; k_head; (case hw => w_witness2)
  k_fill
  refine Toy.walk (l := PySem.Challenge.rw_joinedasks_k84_toggles_told) rfl rfl (fun w h Y => PySem.W.kIn_of Y) rfl ?F
  case F =>
    intro w mg h KX G
    refine' Toy.all_mk (w := w) KX G ?a1 ?l1 ?c1 ?k1 ?a2 ?l2 ?c2 ?k2 ?a3 ?l3 ?c3 ?k3 ?dl3 ?a4 ?l4 ?c4 ?k4 ?a5 ?l5 ?c5 ?k5 ?a6 ?l6 ?c6 ?k6 ?a7 ?l7 ?c7 ?k7 ?a8 ?l8 ?c8 ?k8 ?a9 ?l9 ?c9 ?k9 ?a10 ?l10 ?c10 ?k10 ?a11 ?l11 ?c11 ?k11 ?a12 ?l12 ?c12 ?k12 ?a13 ?l13 ?c13 ?k13 ?a14 ?l14 ?c14 ?k14 ?a15 ?l15 ?c15 ?k15 ?z0 ?z1 ?z2 ?z3 ?z4 ?z5 ?z6 ?z7 ?z8 ?z9 ?z10 ?z11 ?z12 ?cst0
    (case a1 => k_is)
    (case l1 => k_is)
    (case c1 => k_is)
    (case k1 => k_is)
    (case a2 => k_is)
    (case l2 => k_is)
    (case c2 => k_is)
    (case k2 => k_is)
    (case a3 => k_is)
    (case l3 => k_is)
    (case c3 => k_is)
    (case k3 => k_is)
    (case dl3 => k_is)
    (case a4 => k_is)
    (case l4 => k_is)
    (case c4 => k_is)
    (case k4 => k_is)
    (case a5 => k_is)
    (case l5 => k_is)
    (case c5 => k_is)
    (case k5 => k_is)
    (case a6 => k_is)
    (case l6 => k_is)
    (case c6 => k_is)
    (case k6 => k_is)
    (case a7 => k_is)
    (case l7 => k_is)
    (case c7 => k_is)
    (case k7 => k_is)
    (case a8 => k_is)
    (case l8 => k_is)
    (case c8 => k_is)
    (case k8 => k_is)
    (case a9 => k_is)
    (case l9 => k_is)
    (case c9 => k_is)
    (case k9 => k_is)
    (case a10 => k_is)
    (case l10 => k_is)
    (case c10 => k_is)
    (case k10 => k_is)
    (case a11 => k_is)
    (case l11 => k_is)
    (case c11 => k_is)
    (case k11 => k_is)
    (case a12 => k_is)
    (case l12 => k_is)
    (case c12 => k_is)
    (case k12 => k_is)
    (case a13 => k_is)
    (case l13 => k_is)
    (case c13 => k_is)
    (case k13 => k_is)
    (case a14 => k_is)
    (case l14 => k_is)
    (case c14 => k_is)
    (case k14 => k_is)
    (case a15 => k_is)
    (case l15 => k_is)
    (case c15 => k_is)
    (case k15 => k_is)
    (case z0 => k_is)
    (case z1 => k_is)
    (case z2 => k_is)
    (case z3 => k_is)
    (case z4 => k_is)
    (case z5 => k_is)
    (case z6 => k_is)
    (case z7 => k_is)
    (case z8 => k_is)
    (case z9 => k_is)
    (case z10 => k_is)
    (case z11 => k_is)
    (case z12 => k_is)
    (case cst0 => k_is)
#print axioms PySem.Challenge.cw_joinedasks_k84_toggles_told_holds

