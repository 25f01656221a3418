import PyProof.Rows.All
import Wide.All
import OpenK.AllK
import Wide.FinOn
import HandS.ForMost
import HandS.Defaults
import HandS.WideBits
import HandS.Conv
import HandS.IsInst
import HandS.RaiseMore
import HandS.SortInts
import HandS.Style
import HandS.Codes
import HandS.ForExc
import HandS.TryMany
import HandS.Flow
import KE.KEqSeq
import PyProof.ReprRoads
import KE.GoesMore
import KE.KDictZip
import PyProof.ListNew
import PyProof.StrLawsRepr
import HandS.TupAny
import HandS.TryOnly
import HandS.ExcIs
import HandS.Zip
import HandS.Strs
import HandS.TupMul
import PySem.Challenge.RW_joinedasks_k83_spread_and_toggles_refuse
set_option Elab.async false
set_option linter.all false
set_option maxRecDepth 100000
set_option maxHeartbeats 4000000
set_option exponentiation.threshold 100000
namespace Toy
open PySem PySem.Spec PyProof.Rows L2
/-- a def of the text stands behind its name -/
structure Df (K : PySem.W.Frag) (mg : Str → Option Value) (x : Str) (st : Stmt) (ps : List Str) : Prop where
  ex : ∃ f fd, Fun K x x st f fd ∧ mg x = some (.ref f) ∧ Binds K fd ps []
theorem Df.of {K : PySem.W.Frag} {mg : Str → Option Value} {x : Str} {st : Stmt} {ps : List Str} {f : Addr} {oc : Value} {od an : Option Addr} {osl : Array (Option Value)} {kV doc pm cdv ct : Value}
    (l : K.lookup f = some ⟨oc, od, .func (PySem.W.fnOf x x (defArgs st) (defBody st) (defScope st) .none kV doc pm an cdv ct), osl⟩) (c : PySem.W.codeIn K cdv x = true) (k : PySem.W.keepIn K (.ref f) = true) (m : mg x = some (.ref f))
    (h : ∀ (kV doc pm : Value) (an : Option Addr) (cdv ct : Value) (us : List Value), us.length = ps.length → bindArgs (PySem.W.fnOf x x (defArgs st) (defBody st) (defScope st) .none kV doc pm an cdv ct) ⟨us, []⟩ = pure (ps.zip us)) : Df K mg x st ps :=
  ⟨_, _, fun_mk l c k, m, (fun_mk l c k).binds h⟩
end Toy
namespace Toy
open PySem PySem.Spec PyProof.Rows L2
/-- room for calls, and nothing is being shown (repr, str of containers ask that) -/
structure RoomG (k : Nat) (A : Around) : Prop where
  room : Room k A
  idle : A.guards = some []
theorem RoomG.less {j k : Nat} {A : Around} (r : RoomG k A) (h : j ≤ k) : RoomG j A := ⟨r.room.mono h, r.idle⟩
theorem RoomG.units {k : Nat} {A : Around} (r : RoomG k A) : A.units + 64 < cLine := r.room.units
theorem RoomG.in_ {k : Nat} {A : Around} (r : RoomG (k + 1) A) (env : Env) : RoomG k (A.deeper env) := ⟨r.room.deeper env, r.idle⟩
/-- a def's promise under such a call -/
structure FnG (P : Program) (w : World) (K : PySem.W.Frag) (mg : Str → Option Value) (base : Heap) (CX : CXT) (k : Nat) (f : Addr) (fd : FuncData) (ps : List Str) (sp : Sp) : Prop where
  arity : ∀ vs H Q E, sp vs H Q E → vs.length = ps.length
  go : ∀ {A : Around} {outer : List Env} {s : Shared} {H : Hp} {args : Args} {us : List Value} {vs : List V} {Q : VK} {E : XK}, RoomG k A → Env0 P w K mg base A outer s H →
    BindsTo s fd args (ps.zip us) → Vals vs us → sp vs H Q E → codeAny (model P w) A (.call (.ref f) args) (CR CX outer P w H s Q E) s
section
variable {P : Program} {w : World} {K : PySem.W.Frag} {mg : Str → Option Value} {base : Heap} {CX : CXT}
/-- a body that ends well ends the call well -/
theorem flow_end {N : List Str} {qual : Str} {scope : Scope} {f : Addr} {cd : Value} {A : Around} {outer : List Env} {s : Shared} {H : Hp} {Q : VK} {E : XK} {fl : Flow} {s' : Shared}
    (h : SP (cxOf CX P w K mg base N qual scope f cd A outer s H E) [] { nx := fun _ H' => Q .non H', rt := Q } fl s') :
    ∃ u, (fl = .next ∧ u = Value.none ∨ fl = .ret u) ∧ CE outer P w H s Q u s' := by
  cases fl with
  | next =>
    obtain ⟨σ, H1, J, q⟩ := h
    exact ⟨_, .inl ⟨rfl, rfl⟩, .non, H1, J.os, J.bare, J.base, J.hok, rfl, q⟩
  | ret u =>
    obtain ⟨v, σ, H1, J, r, q⟩ := h
    exact ⟨u, .inr rfl, v, H1, J.os, J.bare, J.base, J.hok, r, q⟩
  | brk =>
    obtain ⟨_, _, _, q⟩ := h
    cases q
  | cont =>
    obtain ⟨_, _, _, q⟩ := h
    cases q
/-- a def of the text, whatever its defaults -/
structure FunA (K : PySem.W.Frag) (x qual : Str) (st : Stmt) (f : Addr) (fd : FuncData) : Prop where
  ex : ∃ (oc : Value) (od : Option Addr) (dV kV doc pm : Value) (an : Option Addr) (cdv ct : Value) (osl : Array (Option Value)),
    fd = PySem.W.fnOf x qual (defArgs st) (defBody st) (defScope st) dV kV doc pm an cdv ct ∧ K.lookup f = some ⟨oc, od, .func fd, osl⟩ ∧ PySem.W.codeIn K cdv qual = true
theorem toA {K : PySem.W.Frag} {x qual : Str} {st : Stmt} {f : Addr} {fd : FuncData} (F : Fun K x qual st f fd) : FunA K x qual st f fd := by
  obtain ⟨oc, od, kV, doc, pm, an, cdv, ct, osl, e, lk, hcd⟩ := F.ex
  exact ⟨⟨oc, od, .none, kV, doc, pm, an, cdv, ct, osl, e, lk, hcd⟩⟩
theorem okGA {x qual : Str} {st : Stmt} {f : Addr} {fd : FuncData} {N ps : List Str} {k : Nat} {sp : Sp} (F : FunA K x qual st f fd) (S : FnScope N ps (defScope st)) (ar : ∀ vs H Q E, sp vs H Q E → vs.length = ps.length)
    (body : ∀ (cdv : Value) (A : Around) (outer : List Env) (s : Shared) (H : Hp) (vs : List V) (Q : VK) (E : XK), RoomG k (A.deeper (envOfC qual (defScope st) s.heap.objs.size f cdv)) → sp vs H Q E →
      ∃ t, PSs (cxOf CX P w K mg base N qual (defScope st) f cdv A outer s H E) (defBody st) t ∧ t { nx := fun _ H' => Q .non H', rt := Q } (start N vs) H) : FnG P w K mg base CX (k + 1) f fd ps sp := by
  obtain ⟨oc, od, dV, kV, doc, pm, an, cdv, ct, osl, rfl, lk, hcd⟩ := F.ex
  refine ⟨ar, ?_⟩
  intro A outer s H args us vs Q E room e0 hb rv hsp
  have kin : K.In s.heap := e0.mod.kin.keeps fun b o z => (e0.bs b o z).1
  have nolim : s.heap.NoLimit := e0.mod.nolimit.keeps fun b o z => (e0.bs b o z).1
  have kinds : ∀ y ∈ ps.zip us, (defScope st).names.lookup y.1 = some .local ∨ ((defScope st).names.lookup y.1 = some .cell ∧ ((cellsFrom (s.heap.objs.size + 1) (defScope st).names []).lookup y.1).isSome = true) := by
    rintro ⟨n, v⟩ hy
    exact (S.par n (List.of_mem_zip hy).1).imp _root_.id fun q => ⟨q, PySem.W.cellsFrom_some _ _ _ (.inl q)⟩
  refine codeAny_call_function room.room.depth (kin _ _ lk) rfl S.co S.gen rfl (PySem.W.codeRec_of kin hcd) (hb _ _ _ _ (wpAny_newFunctionEnv_cells S.kind kinds fun env he s1 inC => ?_))
  subst he
  obtain ⟨t, ht, hq⟩ := body cdv A outer s H vs Q E (room.in_ _) hsp
  refine ⟨nolim.keeps inC.toInCall.keep, codeAny_func (wpAny_mono (ht.run [] s1 (start N vs) H _ (inv_start S room.room.hd e0 (ar _ _ _ _ hsp) rv inC) hq) (fun fl s' z => ?_) fun e s' z => z)⟩
  obtain ⟨u, c, q⟩ := flow_end z
  rcases c with ⟨rfl, rfl⟩ | rfl
  · exact q
  · exact q
theorem okG0A {x qual : Str} {st : Stmt} {f : Addr} {fd : FuncData} {N ps : List Str} {k : Nat} {sp : Sp} (F : FunA K x qual st f fd) (S : FnScope N ps (defScope st)) (ar : ∀ vs H Q E, sp vs H Q E → vs.length = ps.length)
    (body : ∀ (cdv : Value) (A : Around) (outer : List Env) (s : Shared) (H : Hp) (vs : List V) (Q : VK) (E : XK), RoomG k (A.deeper (envOfC qual (defScope st) s.heap.objs.size f cdv)) → sp vs H Q E →
      ∃ t, PSs (cxOf CX0 P w K mg base N qual (defScope st) f cdv A outer s H E).nox (defBody st) t ∧ t { nx := fun _ H' => Q .non H', rt := Q } (start N vs) H) : FnG P w K mg base CX0 (k + 1) f fd ps sp :=
  okGA F S ar fun cdv A outer s H vs Q E hr hsp => (body cdv A outer s H vs Q E hr hsp).imp fun _ z => ⟨z.1.nox, z.2⟩
theorem okG {x qual : Str} {st : Stmt} {f : Addr} {fd : FuncData} {N ps : List Str} {k : Nat} {sp : Sp} (F : Fun K x qual st f fd) (S : FnScope N ps (defScope st)) (ar : ∀ vs H Q E, sp vs H Q E → vs.length = ps.length)
    (body : ∀ (cdv : Value) (A : Around) (outer : List Env) (s : Shared) (H : Hp) (vs : List V) (Q : VK) (E : XK), RoomG k (A.deeper (envOfC qual (defScope st) s.heap.objs.size f cdv)) → sp vs H Q E →
      ∃ t, PSs (cxOf CX P w K mg base N qual (defScope st) f cdv A outer s H E) (defBody st) t ∧ t { nx := fun _ H' => Q .non H', rt := Q } (start N vs) H) : FnG P w K mg base CX (k + 1) f fd ps sp :=
  okGA (toA F) S ar body
theorem okG0 {x qual : Str} {st : Stmt} {f : Addr} {fd : FuncData} {N ps : List Str} {k : Nat} {sp : Sp} (F : Fun K x qual st f fd) (S : FnScope N ps (defScope st)) (ar : ∀ vs H Q E, sp vs H Q E → vs.length = ps.length)
    (body : ∀ (cdv : Value) (A : Around) (outer : List Env) (s : Shared) (H : Hp) (vs : List V) (Q : VK) (E : XK), RoomG k (A.deeper (envOfC qual (defScope st) s.heap.objs.size f cdv)) → sp vs H Q E →
      ∃ t, PSs (cxOf CX0 P w K mg base N qual (defScope st) f cdv A outer s H E).nox (defBody st) t ∧ t { nx := fun _ H' => Q .non H', rt := Q } (start N vs) H) : FnG P w K mg base CX0 (k + 1) f fd ps sp :=
  okG0A (toA F) S ar body
end
section
variable {X : Cx} {CX : CXT} {k : Nat} {f : Addr} {fd : FuncData} {ps : List Str} {sp : Sp}
theorem run_G {pins : List (Addr × Obj)} {σ : L2.St} {H : Hp} {s : Shared} {Q : VK} {E : XK} {us : List Value} {vs : List V} (F : FnG X.prog X.w X.K X.mg X.base CX k f fd ps sp) (hr : RoomG k X.A) (hb : Binds X.K fd ps [])
    (out : ∀ e s', CX X.stack H s E e s' → X.xe e s') (I : Inv X pins σ H s) (r : Vals vs us) (h : sp vs H Q E) : wpAny (model X.prog X.w) X.A (call (.ref f) us) (EP X pins σ Q) X.xe s := by
  have n := (r.length).symm.trans (F.arity _ _ _ _ h)
  have b := hb s us I.kIn (by rw [List.append_nil, n])
  rw [List.append_nil] at b
  refine wpAny_call (codeAny_mono (F.go hr I.env0 b r h) ?_)
  rintro (e | fl) s' q
  · exact out e s' q
  · match fl, q with
    | .ret u, q => exact I.after q
/-- a def and its promise, by its name -/
structure Dn (P : Program) (w : World) (K : PySem.W.Frag) (mg : Str → Option Value) (base : Heap) (k : Nat) (x : Str) (ps : List Str) (sp : Sp) : Prop where
  ex : ∃ f fd, FnG P w K mg base CX0 k f fd ps sp ∧ PySem.W.keepIn K (.ref f) = true ∧ mg x = some (.ref f) ∧ Binds K fd ps []
/-- .. that may raise -/
structure Dx (P : Program) (w : World) (K : PySem.W.Frag) (mg : Str → Option Value) (base : Heap) (k : Nat) (x : Str) (ps : List Str) (sp : Sp) : Prop where
  ex : ∃ f fd, FnG P w K mg base (L2.CX P w) k f fd ps sp ∧ PySem.W.keepIn K (.ref f) = true ∧ mg x = some (.ref f) ∧ Binds K fd ps []
theorem Df.ok {P : Program} {w : World} {K : PySem.W.Frag} {mg : Str → Option Value} {base : Heap} {x : Str} {st : Stmt} (D : Df K mg x st ps)
    (h : ∀ f fd, Fun K x x st f fd → FnG P w K mg base CX0 k f fd ps sp) : Dn P w K mg base k x ps sp := by
  obtain ⟨f, fd, F, m, b⟩ := D.ex
  exact ⟨f, fd, h f fd F, F.kp, m, b⟩
theorem Df.okX {P : Program} {w : World} {K : PySem.W.Frag} {mg : Str → Option Value} {base : Heap} {x : Str} {st : Stmt} (D : Df K mg x st ps)
    (h : ∀ f fd, Fun K x x st f fd → FnG P w K mg base (L2.CX P w) k f fd ps sp) : Dx P w K mg base k x ps sp := by
  obtain ⟨f, fd, F, m, b⟩ := D.ex
  exact ⟨f, fd, h f fd F, F.kp, m, b⟩
variable {x : Str} {p pos : Pos} {e : Expr} {es : List Expr} {t : TA}
theorem pe_cD (D : Dn X.prog X.w X.K X.mg X.base k x ps sp) (hr : RoomG k X.A) (hg : Gl X x) (ha : PA X (e :: es) t) (hdb : (x == ("__debug__" : Str)) = false := by decide)
    (he : starEach (e :: es) X.env = (false, eval e X.env) :: starEach es X.env := by rfl) (hpl : (backTo pos (starEach es X.env)).any (·.1) = false := by rfl) : PE X (.Call (.Name x p) (e :: es) [] pos) (tCall sp [] E0 t) := by
  obtain ⟨f, fd, F, hk, hm, hb⟩ := D.ex
  refine ⟨fun pins s σ H Q I h => wpAny_Call_Name_kw (ld_glob I hg hm (PySem.W.callWith_K (h₀ := X.base) I.ok.mod.kin hk (thn (ha.run pos pins s σ H _ I h) fun us s1 ⟨vs, H1, I1, r, q⟩ => ⟨I1.kIn, ?_⟩) he hpl) hdb)⟩
  have q' : sp vs H1 Q E0 := by
    have z : sp (vs ++ []) H1 Q E0 := q
    rw [List.append_nil] at z
    exact z
  exact run_G F hr hb (fun _ _ z => z.elim) I1 r q'
theorem pe_cD0 (D : Dn X.prog X.w X.K X.mg X.base k x ps sp) (hr : RoomG k X.A) (hg : Gl X x) (hdb : (x == ("__debug__" : Str)) = false := by decide) : PE X (.Call (.Name x p) [] [] pos) (tCall sp [] E0 tNil) := by
  obtain ⟨f, fd, F, hk, hm, hb⟩ := D.ex
  refine ⟨fun pins s σ H Q I h => wpAny_Call_Name_kw (ld_glob I hg hm (PySem.W.callWith_K0 I.kIn hk (run_G (us := []) F hr hb (fun _ _ z => z.elim) I .nil h)) hdb)⟩
/-- a def with defaults: dvs fill up -/
structure Dfd (K : PySem.W.Frag) (mg : Str → Option Value) (x : Str) (st : Stmt) (ps : List Str) (dvs : List V) : Prop where
  ex : ∃ (f : Addr) (fd : FuncData) (ds : List Value), FunA K x x st f fd ∧ PySem.W.keepIn K (.ref f) = true ∧ mg x = some (.ref f) ∧ Binds K fd ps ds ∧ Vals dvs ds
theorem Dfd.of {K : PySem.W.Frag} {mg : Str → Option Value} {x : Str} {st : Stmt} {ps : List Str} {dvs : List V} {f T : Addr} {oc : Value} {od an : Option Addr} {osl : Array (Option Value)} {kV doc pm cdv ct : Value} {o : Obj} {its : List Value} {n m : Nat}
    (l : K.lookup f = some ⟨oc, od, .func (PySem.W.fnOf x x (defArgs st) (defBody st) (defScope st) (.ref T) kV doc pm an cdv ct), osl⟩) (c : PySem.W.codeIn K cdv x = true) (k : PySem.W.keepIn K (.ref f) = true) (mx : mg x = some (.ref f))
    (lT : K.lookup T = some o) (oT : o.data = .seq its.toArray m) (rT : Vals dvs its) (hn : n + dvs.length = ps.length)
    (h : ∀ (us : List Value), us.length = n → ∃ kk, bindArgs (PySem.W.fnOf x x (defArgs st) (defBody st) (defScope st) (.ref T) kV doc pm an cdv ct) ⟨us, []⟩ = seqItems? (.ref T) >>= kk ∧ kk (some its.toArray) = pure (ps.zip (us ++ its))) : Dfd K mg x st ps dvs := by
  refine ⟨f, _, its, ⟨⟨_, _, _, _, _, _, _, _, _, _, rfl, l, c⟩⟩, k, mx, fun s us X hlen => ?_, rT⟩
  have l1 := rT.length
  have l2 : us.length = n := by
    rw [List.length_append] at hlen
    omega
  obtain ⟨kk, e1, e2⟩ := h us l2
  refine BindsTo.of_looks fun M => ?_
  rw [e1]
  exact looks_items X lT oT (.of_pure e2)
/-- .. all parameters given -/
theorem Dfd.ofAll {K : PySem.W.Frag} {mg : Str → Option Value} {x : Str} {st : Stmt} {ps : List Str} {f T : Addr} {oc : Value} {od an : Option Addr} {osl : Array (Option Value)} {kV doc pm cdv ct : Value} {o : Obj} {its : List Value} {n m : Nat}
    (l : K.lookup f = some ⟨oc, od, .func (PySem.W.fnOf x x (defArgs st) (defBody st) (defScope st) (.ref T) kV doc pm an cdv ct), osl⟩) (c : PySem.W.codeIn K cdv x = true) (k : PySem.W.keepIn K (.ref f) = true) (mx : mg x = some (.ref f))
    (lT : K.lookup T = some o) (oT : o.data = .seq its.toArray m) (hn : n = ps.length)
    (h : ∀ (us : List Value), us.length = n → ∃ kk, bindArgs (PySem.W.fnOf x x (defArgs st) (defBody st) (defScope st) (.ref T) kV doc pm an cdv ct) ⟨us, []⟩ = seqItems? (.ref T) >>= kk ∧ kk (some its.toArray) = pure (ps.zip us)) : Dfd K mg x st ps [] := by
  refine ⟨f, _, [], ⟨⟨_, _, _, _, _, _, _, _, _, _, rfl, l, c⟩⟩, k, mx, fun s us X hlen => ?_, .nil⟩
  have l2 : us.length = n := by
    rw [List.append_nil] at hlen
    omega
  obtain ⟨kk, e1, e2⟩ := h us l2
  refine BindsTo.of_looks fun M => ?_
  rw [e1, List.append_nil]
  exact looks_items X lT oT (.of_pure e2)
/-- .. and its promise -/
structure DnD (P : Program) (w : World) (K : PySem.W.Frag) (mg : Str → Option Value) (base : Heap) (k : Nat) (x : Str) (ps : List Str) (dvs : List V) (sp : Sp) : Prop where
  ex : ∃ (f : Addr) (fd : FuncData) (ds : List Value), FnG P w K mg base CX0 k f fd ps sp ∧ PySem.W.keepIn K (.ref f) = true ∧ mg x = some (.ref f) ∧ Binds K fd ps ds ∧ Vals dvs ds
theorem Dfd.ok {P : Program} {w : World} {K : PySem.W.Frag} {mg : Str → Option Value} {base : Heap} {x : Str} {st : Stmt} {dvs : List V} (D : Dfd K mg x st ps dvs)
    (h : ∀ f fd, FunA K x x st f fd → FnG P w K mg base CX0 k f fd ps sp) : DnD P w K mg base k x ps dvs sp := by
  obtain ⟨f, fd, ds, F, kp, m, b, d⟩ := D.ex
  exact ⟨f, fd, ds, h f fd F, kp, m, b, d⟩
theorem run_Gd {pins : List (Addr × Obj)} {σ : L2.St} {H : Hp} {s : Shared} {Q : VK} {E : XK} {us ds : List Value} {vs dvs : List V} (F : FnG X.prog X.w X.K X.mg X.base CX k f fd ps sp) (hr : RoomG k X.A) (hb : Binds X.K fd ps ds) (hd : Vals dvs ds)
    (out : ∀ e s', CX X.stack H s E e s' → X.xe e s') (I : Inv X pins σ H s) (r : Vals vs us) (h : sp (vs ++ dvs) H Q E) : wpAny (model X.prog X.w) X.A (call (.ref f) us) (EP X pins σ Q) X.xe s := by
  have r2 : Vals (vs ++ dvs) (us ++ ds) := r.append hd
  have n : (us ++ ds).length = ps.length := by rw [← r2.length]; exact F.arity _ _ _ _ h
  refine wpAny_call (codeAny_mono (F.go hr I.env0 (hb s us I.kIn n) r2 h) ?_)
  rintro (e | fl) s' q
  · exact out e s' q
  · match fl, q with
    | .ret u, q => exact I.after q
theorem pe_cDd {dvs : List V} (D : DnD X.prog X.w X.K X.mg X.base k x ps dvs sp) (hr : RoomG k X.A) (hg : Gl X x) (ha : PA X (e :: es) t) (hdb : (x == ("__debug__" : Str)) = false := by decide)
    (he : starEach (e :: es) X.env = (false, eval e X.env) :: starEach es X.env := by rfl) (hpl : (backTo pos (starEach es X.env)).any (·.1) = false := by rfl) : PE X (.Call (.Name x p) (e :: es) [] pos) (tCall sp dvs E0 t) := by
  obtain ⟨f, fd, ds, F, hk, hm, hb, hd⟩ := D.ex
  refine ⟨fun pins s σ H Q I h => wpAny_Call_Name_kw (ld_glob I hg hm (PySem.W.callWith_K (h₀ := X.base) I.ok.mod.kin hk (thn (ha.run pos pins s σ H _ I h) fun us s1 ⟨vs, H1, I1, r, q⟩ => ⟨I1.kIn, ?_⟩) he hpl) hdb)⟩
  exact run_Gd F hr hb hd (fun _ _ z => z.elim) I1 r q
/-- a call within a try: what is raised is wished at the slots -/
theorem pe_cX {E : L2.St → XK} (D : Dx X.prog X.w X.K X.mg X.base k x ps sp) (hr : RoomG k X.A) (hg : Gl X x) (hx : ∀ σ, PassesAt (L2.CX X.prog X.w) X σ (E σ)) (ha : PA X (e :: es) t) (hdb : (x == ("__debug__" : Str)) = false := by decide)
    (he : starEach (e :: es) X.env = (false, eval e X.env) :: starEach es X.env := by rfl) (hpl : (backTo pos (starEach es X.env)).any (·.1) = false := by rfl) : PE X (.Call (.Name x p) (e :: es) [] pos) (tCallS sp E t) := by
  obtain ⟨f, fd, F, hk, hm, hb⟩ := D.ex
  exact ⟨fun pins s σ H Q I h => wpAny_Call_Name_kw (ld_glob I hg hm (PySem.W.callWith_K (h₀ := X.base) I.ok.mod.kin hk (thn (ha.run pos pins s σ H _ I h) fun us s1 ⟨vs, H1, I1, r, q⟩ =>
    ⟨I1.kIn, run_G F hr hb (fun e s' z => hx σ pins H1 s1 e s' I1 z) I1 r q⟩) he hpl) hdb)⟩
/-- repr of what is data -/
def rRepr (K : PySem.W.Frag) : List V → Hp → VK → Prop := fun xs H Q => ∃ (x : V) (d : PyData), xs = [x] ∧ Dp K H x d ∧ d.showable = true ∧ d.depth ≤ 60 ∧ d.shown.length ≤ sizeLine ∧ Q (.str d.shown) H
mutual
theorem dp_noDict {K : PySem.W.Frag} {H : Hp} : ∀ (d : PyData) (x : V), Dp K H x d → d.hasDict = false
  | .none, _, _ => rfl
  | .bool _, _, _ => rfl
  | .int _, _, _ => rfl
  | .str _, _, _ => rfl
  | .list ds, _, h => by
    cases h with
    | lst _ ha => simpa [PyData.hasDict] using dp_noDicts ds _ ha
  | .tuple ds, _, h => by
    cases h with
    | tup _ ha => simpa [PyData.hasDict] using dp_noDicts ds _ ha
  | .dict _, _, h => by cases h
theorem dp_noDicts {K : PySem.W.Frag} {H : Hp} : ∀ (ds : List PyData) (xs : List V), DpAll K H xs ds → PyData.hasDictAll ds = false
  | [], _, _ => by simp [PyData.hasDictAll]
  | d :: ds, _, h => by
    cases h with
    | cons a b => simp [PyData.hasDictAll, dp_noDict d _ a, dp_noDicts ds _ b]
end
theorem reprK {K : PySem.W.Frag} (hr : RoomG k X.A) (eK : X.K = K := by rfl) : CallR X (.builtin "repr") (rRepr K) := by
  cases eK
  intro pins s σ H xs us Q I r h
  obtain ⟨x, d, rfl, hd, hs, hdep, hz, q⟩ := h
  obtain ⟨u, rfl, rx⟩ := vals1 r
  obtain ⟨as, rd⟩ := Dp.reads I d x u hd rx
  have hu := hr.units
  have nd := dp_noDict d x hd
  cases hd with
  | non => cases rx; exact PySem.P.repr_of_none ⟨.str _, H, I.tok _, ⟨_, rfl⟩, q⟩
  | bl b => cases rx; exact PySem.P.repr_of_bool ⟨.str _, H, I.tok _, ⟨_, rfl⟩, q⟩
  | int i => obtain ⟨t, rfl⟩ := rx; exact PySem.P.repr_of_int (of_decide_eq_true (by simpa [PyData.showable] using hs)) ⟨.str _, H, I.tok _, ⟨_, rfl⟩, q⟩
  | str z => obtain ⟨t, rfl⟩ := rx; exact PySem.P.repr_of_str ⟨.str _, H, I.tok _, ⟨_, rfl⟩, q⟩ hz
  | lst hq ha =>
    cases rx
    refine repr_of_reads' rd hs (PyData.noDict_hsm nd) hr.idle (by omega) (fun _ _ z => z) (fun h' u tk hk => ⟨.str _, H, I.kept hk, ⟨_, rfl⟩, q⟩) hz
  | tup hq ha =>
    cases rx
    refine repr_of_reads' rd hs (PyData.noDict_hsm nd) hr.idle (by omega) (fun _ _ z => z) (fun h' u tk hk => ⟨.str _, H, I.kept hk, ⟨_, rfl⟩, q⟩) hz
end
end Toy
namespace Toy
open PySem PySem.Spec PyProof.Rows L2
/-- what was tracked stays, but for one object -/
def But (p : Addr) (H H' : Hp) : Prop := ∀ b o, b ≠ p → H b = some o → H' b = some o
theorem But.refl {p : Addr} {H : Hp} : But p H H := fun _ _ _ h => h
theorem But.trans {p : Addr} {H H1 H2 : Hp} (a : But p H H1) (b : But p H1 H2) : But p H H2 := fun c o n h => b c o n (a c o n h)
theorem But.free {p : Addr} {H H' : Hp} (e : But p H H') {l : Addr} (n : l ≠ p) (h : H' l = Option.none) : H l = Option.none := by
  cases q : H l with
  | none => rfl
  | some o =>
    rw [e l o n q] at h
    cases h
theorem same_but {p : Addr} {H H' : Hp} (a : Same H H') : But p H H' := fun c o _ h => a c o h
theorem But.upd {p : Addr} {H : Hp} {o : HO} : But p H (upd H p o) := fun b u n h => by rw [upd_ne n]; exact h
theorem same_new {H : Hp} {p : Addr} (h : H p = none) (o : HO) : Same H (upd H p o) := fun b u q => by rw [upd_ne (ne_of_none q h)]; exact q
theorem but_tup {p : Addr} {K : PySem.W.Frag} {H H' : Hp} {a : Addr} {xs ys : List V} (e : But p H H') (hp : H p = some (.lst ys)) (h : SqT K H a xs) : SqT K H' a xs := by
  rcases h with (h | ⟨o, h⟩) | h
  · exact .inl (.inl (e _ _ (ne_of h hp (by intro z; cases z)) h))
  · exact .inl (.inr ⟨o, e _ _ (ne_of h hp (by intro z; cases z)) h⟩)
  · exact .inr h
theorem same_tup {K : PySem.W.Frag} {H H' : Hp} {a : Addr} {xs : List V} (e : Same H H') (h : SqT K H a xs) : SqT K H' a xs := by
  rcases h with (h | ⟨o, h⟩) | h
  · exact .inl (.inl (e _ _ h))
  · exact .inl (.inr ⟨o, e _ _ h⟩)
  · exact .inr h
/-- the script stays -/
theorem but_seq {p : Addr} {K : PySem.W.Frag} {H H' : Hp} {a : Addr} {xs : List V} (e : But p H H') (n : a ≠ p) (h : SqL K H a xs) : SqL K H' a xs := by
  rcases h with (h | ⟨o, h⟩) | h
  · exact .inl (.inl (e _ _ n h))
  · exact .inl (.inr ⟨o, e _ _ n h⟩)
  · exact .inr h
theorem small {n : Nat} (h : n ≤ 1000) : n ≤ sizeLine := Nat.le_of_lt (small1000 h)
theorem log_lt {i : Int} {n : Nat} (h0 : 0 < n) (h : i.natAbs < 2 ^ n) : i.natAbs.log2 < n := PySem.Flt.log2_lt_of h0 h
theorem divp_small {i j : Int} (hj : 0 < j) (h : j < 2 ^ 8000) : CDivP i j := by
  refine ⟨hj, PyProof.noPylong_of_log2 ?_⟩
  exact Nat.lt_trans (log_lt (n := 8000) (by decide) (by omega)) (by decide)
end Toy
namespace Toy
open PySem PySem.Spec PyProof.Rows L2
theorem ifT {c : Bool} {A B : Prop} (hc : c = true) (h : A) : if c = true then A else B := by rw [if_pos hc]; exact h
theorem ifF {c : Bool} {A B : Prop} (hc : c = false) (h : B) : if c = true then A else B := by rw [hc]; exact iteF h
theorem pj {j : Int} (h : decide ((0 : Int) < j) = true := by decide) : 0 < j := of_decide_eq_true h
theorem sz {xs : List V} (h : Nat.ble xs.length 1000 = true := by rfl) : xs.length ≤ sizeLine := small (Nat.le_of_ble_eq_true h)
theorem but_same {p : Addr} {H H1 H2 : Hp} (n : H p = none) (a : Same H H1) (b : But p H1 H2) : Same H H2 := fun c o h => b c o (ne_of_none h n) (a c o h)
/-- two ways of a value meet -/
theorem ifE {ta tb : TE} {σ : L2.St} {H : Hp} {Q : VK} {b : Bool} (R : V → Hp → Prop) (h : ∀ v H', R v H' → Q v H') (h1 : b = true → ∀ Q' : VK, (∀ v H', R v H' → Q' v H') → ta σ H Q') (h2 : b = false → ∀ Q' : VK, (∀ v H', R v H' → Q' v H') → tb σ H Q') :
    if b = true then ta σ H Q else tb σ H Q := by
  cases b with
  | true => exact iteT (h1 rfl Q h)
  | false => exact iteF (h2 rfl Q h)
theorem mulx {i j : Int} (a b : Nat) (ha : i.natAbs < 2 ^ a) (hb : j.natAbs < 2 ^ b) (h : a + b ≤ 134217728 := by decide) : CMulX i j := mulx_ok ha hb h
end Toy
namespace Toy
open PySem PySem.Spec PyProof.Rows L2
theorem qi {Q : VK} {H : Hp} {a b : Int} (q : Q (.int a) H) (e : a = b) : Q (.int b) H := e ▸ q
end Toy
namespace Toy
open PySem PySem.Spec PyProof.Rows L2
/-- the written part by its letter -/
theorem kk {α : Sort _} {P : α → Prop} {F : PySem.W.Frag → α} {K0 K : PySem.W.Frag} (h : P (F K0)) (e : K0 = K := by rfl) : P (F K) := e ▸ h
def rLen (K : PySem.W.Frag) : List V → Hp → VK → Prop := fun xs H Q => ∃ p ys, xs = [.ref p] ∧ (SqL K H p ys ∨ SqT K H p ys) ∧ Q (.int ys.length) H
theorem lenK {X : Cx} {K : PySem.W.Frag} (e : X.K = K := by rfl) : CallR X (.builtin "len") (rLen K) := by cases e; exact call_len_seq
def rLstOf (K : PySem.W.Frag) : List V → Hp → VK → Prop := fun xs H Q => ∃ p ys, xs = [.ref p] ∧ (SqL K H p ys ∨ SqT K H p ys) ∧ ∀ l, H l = none → Q (.ref l) (upd H l (.lst ys))
theorem lstOfK {X : Cx} {K : PySem.W.Frag} (e : X.K = K := by rfl) : CallR X (.type "list") (rLstOf K) := by cases e; exact call_list_of
def rTupOf (K : PySem.W.Frag) : List V → Hp → VK → Prop := fun xs H Q => ∃ p ys, xs = [.ref p] ∧ ((SqL K H p ys ∧ ∀ l, H l = none → Q (.ref l) (upd H l (.tup ys))) ∨ (SqT K H p ys ∧ Q (.ref p) H))
theorem tupOfK {X : Cx} {K : PySem.W.Frag} (e : X.K = K := by rfl) : CallR X (.type "tuple") (rTupOf K) := by cases e; exact call_tuple_of
theorem dec_ne {α : Type} [DecidableEq α] {a b : α} (h : a = b) : (!decide (a = b)) = false := by rw [decide_eq_true h] <;> rfl
end Toy
namespace Toy
open PySem PySem.Spec PyProof.Rows L2
/-- a tuple of the written part; a tuple that never changes -/
def KTup (K : PySem.W.Frag) (a : Addr) (xs : List V) : Prop := ∃ (o : Obj) (its : Array Value) (n : Nat), K.lookup a = some o ∧ o.cls = .type "tuple" ∧ o.data = .seq its n ∧ its.size ≤ sizeLine ∧ Vals xs its.toList
def TupAt (K : PySem.W.Frag) (H : Hp) (a : Addr) (xs : List V) : Prop := H a = some (.tup xs) ∨ KTup K a xs
theorem TupAt.sq {K : PySem.W.Frag} {H : Hp} {a : Addr} {xs : List V} (h : TupAt K H a xs) : SqT K H a xs := by
  rcases h with h | h
  · exact SqT.of h
  · exact .inr h
theorem TupAt.ty {K : PySem.W.Frag} {H : Hp} {a : Addr} {xs : List V} (h : TupAt K H a xs) : TyX K H (.ref a) (.type "tuple") := by
  rcases h with h | ⟨o, its, n, h1, h2, _⟩
  · exact .base (.tup h)
  · exact .kTuple h1 h2
theorem TupAt.same {K : PySem.W.Frag} {H H' : Hp} {a : Addr} {xs : List V} (e : Same H H') (h : TupAt K H a xs) : TupAt K H' a xs := h.imp (e _ _) id
theorem TupAt.but {K : PySem.W.Frag} {H H' : Hp} {a p : Addr} {xs ys : List V} (e : But p H H') (hp : H p = some (.lst ys)) (h : TupAt K H a xs) : TupAt K H' a xs := h.imp (fun h => e _ _ (ne_of h hp (by intro z; cases z)) h) id
end Toy
namespace Toy
open PySem PySem.Spec PyProof.Rows L2
theorem ints_dp {K : PySem.W.Frag} {H : Hp} : ∀ ns : List Int, DpAll K H (ns.map V.int) (ns.map PyData.int)
  | [] => .nil
  | n :: r => .cons (.int n) (ints_dp r)
theorem ints_sh (ns : List Int) : SeqAt.shaped (.list (ns.map PyData.int)) = true := PySem.W.ke_shaped_ints ns
theorem ints_refl (ns : List Int) : PyData.eqv (.list (ns.map PyData.int)) (.list (ns.map PyData.int)) = true := SeqAt.eqv_refl _ (SeqAt.canLay_of_shaped (ints_sh ns))
theorem lst_dp {K : PySem.W.Frag} {H : Hp} {a : Addr} {ns : List Int} (h : SqL K H a (ns.map V.int)) : Dp K H (.ref a) (.list (ns.map PyData.int)) := .lst h (ints_dp ns)
theorem tupI_dp {K : PySem.W.Frag} {H : Hp} {a : Addr} {ns : List Int} (h : SqT K H a (ns.map V.int)) : Dp K H (.ref a) (.tuple (ns.map PyData.int)) := .tup h (ints_dp ns)
theorem tupI_sh (ns : List Int) : SeqAt.shaped (.tuple (ns.map PyData.int)) = true := ints_sh ns
theorem tupI_refl (ns : List Int) : PyData.eqv (.tuple (ns.map PyData.int)) (.tuple (ns.map PyData.int)) = true := SeqAt.eqv_refl _ (SeqAt.canLay_of_shaped (tupI_sh ns))
theorem cut_map (us : List Int) (lo hi : Option Int) : ∃ ws : List Int, cutV (us.map V.int) lo hi = ws.map V.int ∧ ws.length ≤ us.length ∧ ∀ x ∈ ws, x ∈ us := by
  refine ⟨(us.drop (HT.sIx (us.map V.int).length 0 lo)).take (HT.sIx (us.map V.int).length (us.map V.int).length hi - HT.sIx (us.map V.int).length 0 lo), ?_, ?_, fun x hx => List.mem_of_mem_drop (List.mem_of_mem_take hx)⟩
  · unfold cutV; rw [List.map_take, List.map_drop]
  · rw [List.length_take, List.length_drop]; omega
theorem at_map {us : List Int} {i : Nat} {y : V} (h : (us.map V.int)[i]? = some y) : ∃ x : Int, y = .int x ∧ us[i]? = some x := by
  rw [List.getElem?_map] at h
  cases e : us[i]? with
  | none => rw [e] at h; cases h
  | some x => rw [e] at h; exact ⟨x, (Option.some.inj h).symm, rfl⟩
end Toy
namespace Toy
open PySem PySem.Spec PyProof.Rows L2
/-- the heap in which the script alone stands, unless the text's own part holds it -/
def scriptH (K : PySem.W.Frag) (a : Addr) (o : Obj) (ns : List Int) : Hp := fun c => if (K.lookup a).isNone = true ∧ c = a then some (.frz o (.lst (ns.map V.int))) else none
theorem scriptH_none {K : PySem.W.Frag} {a b : Addr} {o : Obj} {ns : List Int} : scriptH K a o ns b = none ∨ (b = a ∧ K.lookup a = none ∧ scriptH K a o ns b = some (.frz o (.lst (ns.map V.int)))) := by
  unfold scriptH
  by_cases c : (K.lookup a).isNone = true ∧ b = a
  · exact .inr ⟨c.2, Option.isNone_iff_eq_none.mp c.1, if_pos c⟩
  · exact .inl (if_neg c)
theorem law_G {P : Program} {w : World} {K : PySem.W.Frag} {mg mb : Str → Option Value} {k : Nat} {fa a : Addr} {fd : FuncData} {x : Str} {sp : Sp} {s : Shared} {vs : List Value} {ns : List Int}
    (KX : K.In s.heap) (hns : s.heap.Ns mainGlobals mg) (hb : s.heap.Ns builtinsNs mb) (hbb : ∀ x : Str, x ≠ "__name__" → mb x = bootBuiltins x) (hlim : s.heap.NoLimit) (hg : s.gens = #[])
    (ha : s.heap.get? a = some { cls := .type "list", data := .seq vs.toArray }) (hi : IntsAre vs ns) (hl : ns.length ≤ sizeLine) (hr : Room k PySem.callerA)
    (F : ∀ base : Heap, K.In base → base.Ns mainGlobals mg → FnG P w K mg base CX0 k fa fd [x] sp) (hbind : ∀ (s : Shared) (u : Value), BindsTo s fd ⟨[u], []⟩ [(x, u)])
    (hsp : ∀ H : Hp, SqL K H a (ns.map V.int) → sp [.ref a] H (fun v _ => v = .bl true) fun _ _ _ => False) :
    codeAny (model P w) PySem.callerA (.call (.ref fa) ⟨[.ref a], []⟩) (fun r s' => r = .ok (.ret (.bool true)) ∧ OldK s.heap s'.heap ∧ s'.os = s.os ∧ AllBare s'.gens) s := by
  let H : Hp := scriptH K a { cls := .type "list", data := .seq vs.toArray } ns
  have hH : ∀ b, H b = none ∨ (b = a ∧ K.lookup a = none ∧ H b = some (.frz { cls := .type "list", data := .seq vs.toArray } (.lst (ns.map V.int)))) := fun b => scriptH_none
  have rv := vals_ints hi
  have hok : HOk P w H s.heap := by
    intro b u e
    rcases hH b with z | ⟨rfl, _, z⟩
    · rw [z] at e; cases e
    · rw [z] at e
      cases e
      exact ⟨ha, by rw [List.length_map]; exact hl, vs, _, rv, ha⟩
  have hS : SqL K H a (ns.map V.int) := by
    cases q : K.lookup a with
    | none => exact .inl (.inr ⟨_, show scriptH K a _ ns a = _ from if_pos ⟨by rw [q] <;> rfl, rfl⟩⟩)
    | some o =>
      have e := KX a o q
      rw [ha] at e
      cases e
      exact .inr ⟨_, vs.toArray, _, q, rfl, rfl, rfl, by rw [List.size_toArray, hi.length]; exact hl, by simpa using rv⟩
  -- what is no list is not the script
  have notA : ∀ {b : Addr} {o : Obj} {es : Array DictEntry} {ep : Nat}, s.heap.get? b = some o → o.data = .dict es ep → H b = none := by
    intro b o es ep e d
    rcases hH b with z | ⟨rfl, _, _⟩
    · exact z
    · rw [ha] at e
      cases e
      cases (show Data.seq vs.toArray _ = Data.dict es ep from d)
  have ns' : ∀ {b : Addr} {m : Str → Option Value}, s.heap.Ns b m → (hidT s.heap H).Ns b m := by
    rintro b m ⟨o, es, ep, e, d, r⟩
    exact ⟨o, es, ep, hidT_get e (notA e d), d, r⟩
  have kin' : K.In (hidT s.heap H) := by
    intro b o e
    refine hidT_get (KX b o e) ?_
    rcases hH b with z | ⟨rfl, q, _⟩
    · exact z
    · rw [q] at e; cases e
  have md : Mod K mg (hidT s.heap H) := ⟨kin', ns' hns, ⟨mb, ns' hb, hbb⟩, hlim.imp fun _ z => ⟨ns' z.1, z.2⟩⟩
  have e0 : Env0 P w K mg (hidT s.heap H) PySem.callerA [] s H := ⟨rfl, md, fun _ _ z => of_hidT z, Nat.le_of_eq (hidT_size _ _), trivial, (by intro b z; cases z), hok, .of_eq hg⟩
  refine codeAny_mono ((F _ kin' (ns' hns)).go (us := [.ref a]) (vs := [.ref a]) ⟨hr, rfl⟩ e0 (hbind s (.ref a)) (.cons rfl .nil) (hsp H hS)) ?_
  rintro (e | fl) s' q
  · exact q.elim
  match fl, q with
  | .ret u, ⟨v, H', os, bare, un, ok', r', q⟩ =>
    have q' : v = .bl true := q
    subst q'
    obtain rfl : u = Value.bool true := r'
    refine ⟨rfl, OldK.of_keep fun b o e => ?_, os, bare⟩
    rcases hH b with z | ⟨_, _, z⟩
    · exact un.keep b o e z (by intro y; cases y) (by intro y; cases y)
    · have z1 := (hok b _ z).1
      have z2 := (ok' b _ (un.frzs b _ _ z)).1
      rw [e] at z1
      cases z1
      exact z2
theorem walk_G {l : PySem.W.OpenLaw} {n k : Nat} {q : Program} {loose : List Str} {XP : (Str → Option Value) → Heap → Prop} {YP : World → Heap → Prop} {d : DefRec} {K : Params → PySem.W.Frag} {sp : PySem.W.Frag → Sp} {x : Str}
    (hn : l.most = some n) (hn2 : n ≤ sizeLine) (hdf : d.params.defaults = []) (hr : Room k PySem.callerA) (hY : ∀ (w : World) (h : Heap), YP w h → (K w.params).In h)
    (F : ∀ (w : World) (mg : Str → Option Value) (fa : Addr) (h : Heap), (K w.params).In h → h.Ns mainGlobals mg → mg d.name = some (.ref fa) →
      ∃ fd : FuncData, (∀ (s : Shared) (u : Value), BindsTo s fd ⟨[u], []⟩ [(x, u)]) ∧ ∀ base : Heap, (K w.params).In base → base.Ns mainGlobals mg → FnG l.prog w (K w.params) mg base CX0 k fa fd [x] (sp (K w.params)))
    (hsp : ∀ (K : PySem.W.Frag) (H : Hp) (a : Addr) (ns : List Int), ns.length ≤ n → SqL K H a (ns.map V.int) → sp K [.ref a] H (fun v _ => v = .bl true) fun _ _ _ => False) :
    PySem.W.WalkO q loose XP YP l.row.toRowW d [] (fun f vs => PySem.call f vs) :=
  Att.attach_call hn hdf fun w s0 s1 mg mb fa o pm cd doc a vs ns G Y ho hd hcd hmg hobj hints hlen hg => by
    have KX := hY w _ Y
    obtain ⟨fd, hbd, hF⟩ := F w mg fa _ KX G.T.g hmg
    exact law_G KX G.T.g G.T.b G.T.builtins G.T.nolimit hg hobj hints (Nat.le_trans hlen hn2) hr hF hbd fun H hS => hsp _ H a ns hlen hS
end Toy
namespace Toy
open PySem PySem.Spec PyProof.Rows L2
/-! ### how long a shown datum is -/
mutual
def cst : PyData → Nat
  | .none => 5
  | .bool _ => 5
  | .int _ => 1921
  | .str x => (reprText x).length
  | .list xs => csts xs + 4
  | .tuple xs => csts xs + 4
  | .dict _ => 0
def csts : List PyData → Nat
  | [] => 0
  | x :: xs => cst x + 4 + csts xs
end
theorem tupT_len (ts : List Str) : (tupleText ts).length ≤ piled ts + 4 := by
  unfold tupleText
  rw [strLen_append, strLen_append]
  have e1 : ((("(" : String) : Str)).length = 1 := rfl
  have e3 : (((if ts.length == 1 then ",)" else ")" : String) : Str)).length ≤ 2 := by split <;> decide +kernel
  by_cases h : ts = []
  · subst h; decide +kernel
  · have := join_length_add ts h; omega
theorem txtFrom_len : ∀ (ts : List Str) (k : Nat) (acc : Str), (textFrom k acc ts).length ≤ acc.length + piled ts
  | [], k, acc => Nat.le_add_right _ _
  | t :: r, k, acc => by
    have h := txtFrom_len r (k + 1) (acc ++ (if k > 0 then ", " else "" : String) ++ t)
    have e : (acc ++ (if k > 0 then ", " else "" : String) ++ t).length = acc.length + (if k > 0 then 2 else 0) + t.length := by
      rw [strLen_append, strLen_append]
      split <;> rfl
    rw [e] at h
    rw [piled_cons]
    have h2 : (textFrom k acc (t :: r)).length = (textFrom (k + 1) (acc ++ (if k > 0 then ", " else "" : String) ++ t) r).length := rfl
    rw [h2]
    have e2 : (if k > 0 then 2 else 0) ≤ 2 := by split <;> omega
    omega
theorem lstT_len (ts : List Str) : (listText ts).length ≤ piled ts + 4 := by
  unfold listText
  rw [strLen_append]
  have h := txtFrom_len ts 0 "["
  have e1 : ((("[" : String) : Str)).length = 1 := rfl
  have e2 : ((("]" : String) : Str)).length = 1 := rfl
  omega
mutual
theorem shown_le : ∀ d : PyData, d.showable = true → d.hasDict = false → d.shown.length ≤ cst d
  | .none, _, _ => by show (("None" : String) : Str).length ≤ 5; decide +kernel
  | .bool b, _, _ => by cases b <;> (show _ ≤ 5; decide +kernel)
  | .int i, h, _ => PyProof.Rows.int_text_len_1921 (of_decide_eq_true (by simpa [PyData.showable] using h))
  | .str x, _, _ => Nat.le_refl _
  | .list ds, h, g => by
    have h1 := showns_le ds (by simpa [PyData.showable] using h) (by simpa [PyData.hasDict] using g)
    have h2 := lstT_len (PyData.shownAll ds)
    show (listText (PyData.shownAll ds)).length ≤ csts ds + 4
    omega
  | .tuple ds, h, g => by
    have h1 := showns_le ds (by simpa [PyData.showable] using h) (by simpa [PyData.hasDict] using g)
    have h2 := tupT_len (PyData.shownAll ds)
    show (tupleText (PyData.shownAll ds)).length ≤ csts ds + 4
    omega
  | .dict _, _, g => by simp [PyData.hasDict] at g
theorem showns_le : ∀ ds : List PyData, PyData.showableAll ds = true → PyData.hasDictAll ds = false → piled (PyData.shownAll ds) ≤ csts ds
  | [], _, _ => Nat.le_refl _
  | d :: ds, h, g => by
    have h1 := shown_le d (by simp [PyData.showableAll] at h; exact h.1) (by simp [PyData.hasDictAll] at g; exact g.1)
    have h2 := showns_le ds (by simp [PyData.showableAll] at h; exact h.2) (by simp [PyData.hasDictAll] at g; exact g.2)
    show piled (d.shown :: PyData.shownAll ds) ≤ _
    rw [piled_cons]
    show _ ≤ cst d + 4 + csts ds
    omega
end
theorem shown_sz {d : PyData} (h : d.showable = true) (g : d.hasDict = false) (c : cst d ≤ 10000000) : d.shown.length ≤ sizeLine :=
  Nat.le_trans (shown_le d h g) (Nat.le_trans c (by decide))
end Toy
namespace Toy
open PySem PySem.Spec PyProof.Rows L2
/-- a list of ints grown by a part of another one -/
theorem ext_cut {L z : Addr} {ws es : List Int} {lo hi : Option Int} {H : Hp} {R : VK} (hL : H L = some (.lst (ws.map V.int))) (hz : H z = some (.lst (cutV (es.map V.int) lo hi))) (hs : ws.length + es.length ≤ 1000)
    (q : ∀ us : List Int, us.length ≤ es.length → (∀ x ∈ us, x ∈ es) → R .non (upd H L (.lst ((ws ++ us).map V.int)))) : rExtend (.ref L) [.ref z] H R := by
  obtain ⟨us, e, h1, h2⟩ := cut_map es lo hi
  rw [e] at hz
  refine ⟨L, z, _, _, rfl, rfl, hL, hz, small (by rw [List.length_map, List.length_map]; omega), ?_⟩
  have := q us h1 h2
  rw [List.map_append] at this
  exact this
theorem rep_len {n : Nat} : ((List.replicate n true).map V.bl).length = n := by rw [List.length_map, List.length_replicate]
theorem rep_snoc {n : Nat} : (List.replicate n true).map V.bl ++ [V.bl true] = (List.replicate (n + 1) true).map V.bl := by rw [List.replicate_succ', List.map_append] <;> rfl
theorem rep_all (n : Nat) : (List.replicate n true).all id = true := by rw [List.all_eq_true]; intro x hx; rw [List.mem_replicate] at hx; exact hx.2
theorem ixn {n j : Nat} (hj : j < n) : ixN n (j : Int) = some j := by
  unfold ixN
  rw [if_pos (by omega), if_pos (by omega)]
  exact congrArg some (Int.toNat_natCast j)
theorem dec_self (a : V) : decide (a = a) = true := decide_eq_true rfl
end Toy
namespace Toy
open PySem PySem.Spec PyProof.Rows L2
/-- a comprehension within a comprehension -/
theorem relabel_kept {env : Env} : ∀ {names : List (Str × NameKind)} {x : Str}, names.lookup x = some .cell ∨ names.lookup x = some .free →
    (names.map fun (n, k) => if (k == NameKind.free && env.scope.kind == .function && env.kindOf n == some .cell) then (n, NameKind.cell) else (n, k)).lookup x = some .cell ∨
    (names.map fun (n, k) => if (k == NameKind.free && env.scope.kind == .function && env.kindOf n == some .cell) then (n, NameKind.cell) else (n, k)).lookup x = some .free
  | [], _, h => by simp at h
  | (n, k) :: r, x, h => by
    have ih := @relabel_kept env r x
    show List.lookup x ((if (k == NameKind.free && env.scope.kind == .function && env.kindOf n == some .cell) = true then (n, NameKind.cell) else (n, k)) :: _) = _ ∨ List.lookup x ((if (k == NameKind.free && env.scope.kind == .function && env.kindOf n == some .cell) = true then (n, NameKind.cell) else (n, k)) :: _) = _
    cases hx : x == n with
    | true =>
      simp only [List.lookup_cons, hx] at h
      by_cases hc : (k == NameKind.free && env.scope.kind == .function && env.kindOf n == some .cell) = true
      · rw [if_pos hc]; exact .inl (by simp [List.lookup_cons, hx])
      · rw [if_neg hc]; simp only [List.lookup_cons, hx]; exact h
    | false =>
      simp only [List.lookup_cons, hx] at h
      by_cases hc : (k == NameKind.free && env.scope.kind == .function && env.kindOf n == some .cell) = true
      · rw [if_pos hc]; simp only [List.lookup_cons, hx]; exact ih h
      · rw [if_neg hc]; simp only [List.lookup_cons, hx]; exact ih h
theorem blkOk_nest {X : Cx} {s : Shared} {H : Hp} {scope1 scope : Scope} {cl : List (Str × Addr)} {C : Addr} {env : Env} {fp : List Addr} {own : List (Str × Nat)} {N : List Str} (hN : X.N = N) (h : blkC N scope1 scope own = true) :
    BlkOk (X.blk s H scope1 (compEnvC scope1 cl C env) fp).N (X.blk s H scope1 (compEnvC scope1 cl C env) fp).env.scope scope own := by
  subst hN
  obtain ⟨h1, h2, h3, h4, h5⟩ := blkOk_by h
  exact ⟨h1, h2, h3, fun y hy e => relabel_kept (h4 y hy e), h5⟩
end Toy
namespace Toy
open PySem PySem.Spec PyProof.Rows L2
/-! ### own classes -/
/-- where a name's class stands -/
def cAt (mg : Str → Option Value) (x : Str) : Addr := match mg x with | some (.ref C) => C | _ => 0
theorem cAt_eq {mg : Str → Option Value} {x : Str} {C : Addr} (h : mg x = some (.ref C)) : cAt mg x = C := by unfold cAt; rw [h]
structure ClsF (K : PySem.W.Frag) (mg : Str → Option Value) (x : Str) (fs : List Str) : Prop where
  mg_ : mg x = some (.ref (cAt mg x))
  cl : Cls K (cAt mg x)
  no : ∀ f ∈ fs, NoAttr K (cAt mg x) f
theorem ClsF.of {K : PySem.W.Frag} {mg : Str → Option Value} {x : Str} {C : Addr} {fs : List Str} (m : mg x = some (.ref C)) (c : Cls K C) (n : ∀ f ∈ fs, NoAttr K C f) : ClsF K mg x fs := by
  have e := cAt_eq m
  exact ⟨by rw [e]; exact m, by rw [e]; exact c, by rw [e]; exact n⟩
/-- a method, by its class -/
structure DfM (K : PySem.W.Frag) (C : Addr) (m q : Str) (st : Stmt) (ps : List Str) : Prop where
  ex : ∃ f fd, Fun K m q st f fd ∧ Meth K C m f ∧ Binds K fd ps []
theorem DfM.of {K : PySem.W.Frag} {mg : Str → Option Value} {x m q : Str} {st : Stmt} {ps : List Str} {f C : Addr} {oc : Value} {od an : Option Addr} {osl : Array (Option Value)} {kV doc pm cdv ct : Value} (hC : mg x = some (.ref C))
    (a : PySem.W.findIn K (.ref C) m = some (some (.ref f))) (i : PySem.W.isFn K (.ref f) = true)
    (l : K.lookup f = some ⟨oc, od, .func (PySem.W.fnOf m q (defArgs st) (defBody st) (defScope st) .none kV doc pm an cdv ct), osl⟩) (c : PySem.W.codeIn K cdv q = true) (k : PySem.W.keepIn K (.ref f) = true)
    (h : ∀ (kV doc pm : Value) (an : Option Addr) (cdv ct : Value) (us : List Value), us.length = ps.length → bindArgs (PySem.W.fnOf m q (defArgs st) (defBody st) (defScope st) .none kV doc pm an cdv ct) ⟨us, []⟩ = pure (ps.zip us)) : DfM K (cAt mg x) m q st ps := by
  rw [cAt_eq hC]
  exact ⟨_, _, fun_mk l c k, ⟨a, i, k⟩, (fun_mk l c k).binds h⟩
structure DnM (P : Program) (w : World) (K : PySem.W.Frag) (mg : Str → Option Value) (base : Heap) (C : Addr) (k : Nat) (m : Str) (ps : List Str) (sp : Sp) : Prop where
  ex : ∃ f fd, FnG P w K mg base CX0 k f fd ps sp ∧ Meth K C m f ∧ Binds K fd ps []
theorem DfM.ok {P : Program} {w : World} {K : PySem.W.Frag} {mg : Str → Option Value} {base : Heap} {C : Addr} {m q : Str} {st : Stmt} {ps : List Str} {k : Nat} {sp : Sp} (D : DfM K C m q st ps)
    (h : ∀ f fd, Fun K m q st f fd → FnG P w K mg base CX0 k f fd ps sp) : DnM P w K mg base C k m ps sp := by
  obtain ⟨f, fd, F, mt, b⟩ := D.ex
  exact ⟨f, fd, h f fd F, mt, b⟩
/-- the maker of a class -/
structure DfI (K : PySem.W.Frag) (C : Addr) (q : Str) (st : Stmt) (ps : List Str) : Prop where
  ex : ∃ f fd, Fun K "__init__" q st f fd ∧ Mk K C f ∧ Binds K fd ps []
theorem DfI.of {K : PySem.W.Frag} {mg : Str → Option Value} {x q : Str} {st : Stmt} {ps : List Str} {f C : Addr} {oc : Value} {od an : Option Addr} {osl : Array (Option Value)} {kV doc pm cdv ct : Value} (hC : mg x = some (.ref C))
    (a : PySem.W.findIn K (.ref C) "__init__" = some (some (.ref f))) (i : PySem.W.isFn K (.ref f) = true)
    (l : K.lookup f = some ⟨oc, od, .func (PySem.W.fnOf "__init__" q (defArgs st) (defBody st) (defScope st) .none kV doc pm an cdv ct), osl⟩) (c : PySem.W.codeIn K cdv q = true) (k : PySem.W.keepIn K (.ref f) = true)
    (mk : PySem.W.makesIn K C = true) (kc : PySem.W.keepIn K (.ref C) = true)
    (h : ∀ (kV doc pm : Value) (an : Option Addr) (cdv ct : Value) (us : List Value), us.length = ps.length → bindArgs (PySem.W.fnOf "__init__" q (defArgs st) (defBody st) (defScope st) .none kV doc pm an cdv ct) ⟨us, []⟩ = pure (ps.zip us)) : DfI K (cAt mg x) q st ps := by
  rw [cAt_eq hC]
  exact ⟨_, _, fun_mk l c k, ⟨mk, a, i, kc⟩, (fun_mk l c k).binds h⟩
structure DnI (P : Program) (w : World) (K : PySem.W.Frag) (mg : Str → Option Value) (base : Heap) (C : Addr) (k : Nat) (ps : List Str) (sp : Sp) : Prop where
  ex : ∃ f fd, FnG P w K mg base CX0 k f fd ps sp ∧ Mk K C f ∧ Binds K fd ps []
theorem DfI.ok {P : Program} {w : World} {K : PySem.W.Frag} {mg : Str → Option Value} {base : Heap} {C : Addr} {q : Str} {st : Stmt} {ps : List Str} {k : Nat} {sp : Sp} (D : DfI K C q st ps)
    (h : ∀ f fd, Fun K "__init__" q st f fd → FnG P w K mg base CX0 k f fd ps sp) : DnI P w K mg base C k ps sp := by
  obtain ⟨f, fd, F, mt, b⟩ := D.ex
  exact ⟨f, fd, h f fd F, mt, b⟩
theorem RoomG.make {k : Nat} {A : Around} (r : RoomG (k + 1) A) (C : Addr) (us : List Value) (kw : List (Str × Value)) : RoomG k (A.under (.builtin "type.__call__" ⟨.ref C :: us, kw⟩)) :=
  ⟨r.room.make C us kw, r.idle⟩
section
variable {X : Cx} {k : Nat} {C : Addr} {ps : List Str} {sp : Sp} {x m : Str} {p pos apos : Pos} {e o : Expr} {es : List Expr} {ta : TE} {t : TA}
theorem pe_mG {pl : Sem Bool} (D : DnM X.prog X.w X.K X.mg X.base C k m ps sp) (c : Cls X.K C) (hr : RoomG k X.A) (he : PE X o ta) (ha : PA X (e :: es) t)
    (hst : starEach (e :: es) X.env = (false, eval e X.env) :: starEach es X.env := by rfl) (hpl : (backTo pos (starEach es X.env)).any (·.1) = false := by rfl)
    (ht : eval (.Call (.Attribute o m apos) (e :: es) [] pos) X.env = (do
      let ov ← eval o X.env
      standAt apos.atName
      let (f, first) ← holding [ov] (getMethod ov m pl)
      callWith pos f first (backTo pos (starEach (e :: es) X.env)) (backToKw pos (keywordEach [] X.env))) := by rfl) :
    PE X (.Call (.Attribute o m apos) (e :: es) [] pos) (tMeth C m sp [] E0 ta t) := by
  obtain ⟨f, fd, F, hm, hb⟩ := D.ex
  refine ⟨fun pins s σ H Q I h => ?_⟩
  refine PySem.W.methodCall_KW (pl := pl) (thn (he.run pins s σ H _ I h) fun u s1 ⟨x, H1, I1, rx, a, dx, fs, ex, ea, l, q⟩ => ?_) ht
  subst ex
  obtain rfl : u = Value.ref a := rx
  refine getmeth_ok I1 ea c hm l ?_
  refine PySem.W.callWith_K (first := [.ref a]) (h₀ := X.base) I.ok.mod.kin hm.kp (thn (ha.run pos pins s1 σ H1 _ I1 q) fun us s2 ⟨vs, H2, I2, r, q2⟩ => ⟨I2.kIn, ?_⟩) hst hpl
  have q' : sp (.ref a :: vs) H2 Q E0 := by
    have z : sp (.ref a :: (vs ++ [])) H2 Q E0 := q2
    rw [List.append_nil] at z
    exact z
  exact run_G (us := .ref a :: us) (vs := .ref a :: vs) F hr hb (fun _ _ z => z.elim) I2 (.cons rfl r) q'
theorem pe_mG0 {pl : Sem Bool} (D : DnM X.prog X.w X.K X.mg X.base C k m ps sp) (c : Cls X.K C) (hr : RoomG k X.A) (he : PE X o ta)
    (ht : eval (.Call (.Attribute o m apos) [] [] pos) X.env = (do
      let ov ← eval o X.env
      standAt apos.atName
      let (f, first) ← holding [ov] (getMethod ov m pl)
      callWith pos f first (backTo pos (starEach [] X.env)) (backToKw pos (keywordEach [] X.env))) := by rfl) :
    PE X (.Call (.Attribute o m apos) [] [] pos) (tMeth C m sp [] E0 ta tNil) := by
  obtain ⟨f, fd, F, hm, hb⟩ := D.ex
  refine ⟨fun pins s σ H Q I h => ?_⟩
  refine PySem.W.methodCall_KW (pl := pl) (thn (he.run pins s σ H _ I h) fun u s1 ⟨x, H1, I1, rx, a, dx, fs, ex, ea, l, q⟩ => ?_) ht
  subst ex
  obtain rfl : u = Value.ref a := rx
  refine getmeth_ok I1 ea c hm l ?_
  exact PySem.W.callWith_K0 (first := [.ref a]) I1.kIn hm.kp (run_G (us := [.ref a]) (vs := [.ref a]) F hr hb (fun _ _ z => z.elim) I1 (.cons rfl .nil) q)
theorem run_mkG {pins : List (Addr × Obj)} {σ : L2.St} {H : Hp} {s : Shared} {Q : VK} {us : List Value} {vs : List V} {f : Addr} {fd : FuncData} (M : Mk X.K C f) (F : FnG X.prog X.w X.K X.mg X.base CX0 k f fd ps sp) (hr : RoomG (k + 1) X.A) (hb : Binds X.K fd ps [])
    (I : Inv X pins σ H s) (r : Vals vs us)
    (h : ∀ x dx, H x = none → H dx = none → dx ≠ x → sp (.ref x :: vs) (upd (upd H dx (.own x)) x (.ins C dx [])) (fun v H2 => v = .non ∧ Q (.ref x) H2) E0) :
    wpAny (model X.prog X.w) X.A (call (.ref C) us) (EP X pins σ Q) X.xe s := by
  have hq := h (s.heap.objs.size + 1) s.heap.objs.size (I.hok.fresh (Nat.le_succ _)) (I.hok.fresh (Nat.le_refl _)) (Nat.ne_of_lt (Nat.lt_succ_self _))
  have I2 := Inv.made (C := C) I
  have r2 : Vals (V.ref (s.heap.objs.size + 1) :: vs) (Value.ref (s.heap.objs.size + 1) :: us) := .cons rfl r
  have hl : (Value.ref (s.heap.objs.size + 1) :: us).length = ps.length := by
    rw [← r2.length]
    exact F.arity _ _ _ _ hq
  have b := hb { s with heap := _ } (Value.ref (s.heap.objs.size + 1) :: us) I2.kIn (by rw [List.append_nil]; exact hl)
  rw [List.append_nil] at b
  refine wpAny_call (make_map (f := f) I.kIn M.makes M.init (beq_iff_eq.mp M.fn) (codeAny_mono (F.go (hr.make C us []) (I2.env0.make C us []) b r2 hq) fun r s' hq' => ?_))
  cases r with
  | error e => exact hq'.elim
  | ok fl =>
    match fl, hq' with
    | .ret u, hq' =>
      obtain ⟨v, H', I3, rv, ev, q3⟩ := I2.after hq'
      subst ev
      exact ⟨rv, ⟨V.ref (s.heap.objs.size + 1), H', I3, rfl, q3⟩⟩
theorem pe_mkG (D : DnI X.prog X.w X.K X.mg X.base C k ps sp) (hr : RoomG (k + 1) X.A) (hg : Gl X x) (hm : X.mg x = some (.ref C)) (ha : PA X (e :: es) t) (hdb : (x == ("__debug__" : Str)) = false := by decide)
    (he : starEach (e :: es) X.env = (false, eval e X.env) :: starEach es X.env := by rfl) (hpl : (backTo pos (starEach es X.env)).any (·.1) = false := by rfl) :
    PE X (.Call (.Name x p) (e :: es) [] pos) (tMake C sp [] E0 t) := by
  obtain ⟨f, fd, F, M, hb⟩ := D.ex
  refine ⟨fun pins s σ H Q I h => ?_⟩
  refine wpAny_Call_Name_kw (ld_glob I hg hm ?_ hdb)
  refine PySem.W.callWith_K (h₀ := X.base) I.ok.mod.kin M.kp (thn (ha.run pos pins s σ H _ I h) fun us s1 ⟨vs, H1, I1, r, q⟩ => ⟨I1.kIn, ?_⟩) he hpl
  exact run_mkG M F hr hb I1 r fun x dx h1 h2 h3 => by
    have z := q x dx h1 h2 h3
    rw [List.append_nil] at z
    exact z
/-- o.f, as a target -/
def gFld (K : PySem.W.Frag) (to : TE) (f : Str) : TG := fun v σ H Q => to σ H fun x H1 => ∃ a C dx fs, x = .ref a ∧ H1 a = some (.ins C dx fs) ∧ Cls K C ∧ NoAttr K C f ∧ fs.length < 1000 ∧ Q σ (upd H1 a (.ins C dx (putF f v fs)))
theorem pg_fld {f : Str} {to : TE} (ho : PE X o to) : PG X (.Attribute o f pos) (gFld X.K to f) := by
  refine ⟨fun pins s σ H v u Q I r h => ?_⟩
  rw [assign_Attribute]
  refine wpAny_bind (wpAny_holding (thn (ho.run pins s σ H _ I h) fun ov s1 ⟨x, H1, I1, rx, a, C, dx, fs, ex, ea, c, n, l, q⟩ => ?_))
  subst ex
  obtain rfl : ov = Value.ref a := rx
  refine wpAny_bind (wpAny_standAt ?_)
  refine wpAny_bind (wpAny_holding (setattr_ok I1 ea c n l r fun s2 I2 => ?_))
  exact wpAny_release ⟨σ, _, I2, q⟩
end
end Toy
namespace Toy
open PySem PySem.Spec PyProof.Rows L2
theorem hp_same {H H' : Hp} {a : Addr} {o : HO} (s : Same H H') (h : H a = some o) : H' a = some o := s _ _ h
theorem hp_at {H H' : Hp} {a : Addr} {o : HO} (h : H a = some o) (s : Same H H') : H' a = some o := s _ _ h
theorem sql_at {K : PySem.W.Frag} {H H' : Hp} {p : Addr} {xs : List V} (h : SqL K H p xs) (s : Same H H') : SqL K H' p xs := s.seq h
theorem sqt_at {K : PySem.W.Frag} {H H' : Hp} {a : Addr} {xs : List V} (h : SqT K H a xs) (s : Same H H') : SqT K H' a xs := same_tup s h
theorem same_bk {H M H' : Hp} (b : Same M H') (a : Same H M) : Same H H' := a.trans b
theorem hp_new {H : Hp} {l a : Addr} {o u : HO} (n : H l = none) (h : H a = some o) : upd H l u a = some o := same_new n u _ _ h
theorem s1k : 1000 ≤ sizeLine := by decide
theorem lk1000 {n : Nat} (h : n ≤ 1000) : n ≤ sizeLine := Nat.le_trans h s1k
theorem lt1000 {n : Nat} (h : n < 1000) : n < sizeLine := Nat.lt_of_lt_of_le h s1k
theorem tyL {K : PySem.W.Frag} {H : Hp} {p : Addr} {xs : List V} (h : H p = some (.lst xs)) : tyV K "list" (.ref p) H := .inl ⟨rfl, xs, SqL.of h⟩
theorem sq_same {K : PySem.W.Frag} {H H' : Hp} {p : Addr} {xs : List V} (s : Same H H') (h : SqL K H p xs) : SqL K H' p xs := s.seq h
theorem newS {H H' : Hp} {l : Addr} {o : HO} (e : upd H l o = H') (n : H l = none) : Same H H' := e ▸ same_new n o
theorem newO {H H' : Hp} {l : Addr} {o : HO} (e : upd H l o = H') : H' l = some o := e ▸ upd_same
end Toy
namespace Toy
open PySem PySem.Spec PyProof.Rows L2
/-! ### what may raise -/
section
variable {X : Cx} {k : Nat} {ps : List Str} {sp : Sp} {x : Str} {p pos : Pos} {e : Expr} {es : List Expr} {t : TA} {W : WX}
theorem cx_no {outer : List Env} {H : Hp} {s : Shared} {e : Value} {s' : Shared} {P : Program} {w : World} (h : L2.CX P w outer H s E0 e s') : False := by
  obtain ⟨_, _, _, _, _, _, _, _, _, _, _, _, z⟩ := h
  exact z.elim
/-- a call that may raise; W takes what is raised -/
theorem pe_cW (D : Dx X.prog X.w X.K X.mg X.base k x ps sp) (hr : RoomG k X.A) (tk : Takes X W) (hg : Gl X x) (ha : PA X (e :: es) t) (hdb : (x == ("__debug__" : Str)) = false := by decide)
    (he : starEach (e :: es) X.env = (false, eval e X.env) :: starEach es X.env := by rfl) (hpl : (backTo pos (starEach es X.env)).any (·.1) = false := by rfl) : PE X (.Call (.Name x p) (e :: es) [] pos) (tCallS sp (WE W) t) := by
  obtain ⟨f, fd, F, hk, hm, hb⟩ := D.ex
  exact ⟨fun pins s σ H Q I h => wpAny_Call_Name_kw (ld_glob I hg hm (PySem.W.callWith_K (h₀ := X.base) I.ok.mod.kin hk (thn (ha.run pos pins s σ H _ I h) fun us s1 ⟨vs, H1, I1, r, q⟩ => ⟨I1.kIn, run_G F hr hb (fun e s' c => passAt tk σ pins H1 s1 e s' I1 c) I1 r q⟩) he hpl) hdb)⟩
theorem pe_cW0 (D : Dx X.prog X.w X.K X.mg X.base k x ps sp) (hr : RoomG k X.A) (tk : Takes X W) (hg : Gl X x) (hdb : (x == ("__debug__" : Str)) = false := by decide) : PE X (.Call (.Name x p) [] [] pos) (tCallS sp (WE W) tNil) := by
  obtain ⟨f, fd, F, hk, hm, hb⟩ := D.ex
  exact ⟨fun pins s σ H Q I h => wpAny_Call_Name_kw (ld_glob I hg hm (PySem.W.callWith_K0 I.kIn hk (run_G (us := []) F hr hb (fun e s' c => passAt tk σ pins H s e s' I c) I .nil h)) hdb)⟩
/-- .. that does not raise here -/
theorem pe_cXn (D : Dx X.prog X.w X.K X.mg X.base k x ps sp) (hr : RoomG k X.A) (hg : Gl X x) (ha : PA X (e :: es) t) (hdb : (x == ("__debug__" : Str)) = false := by decide)
    (he : starEach (e :: es) X.env = (false, eval e X.env) :: starEach es X.env := by rfl) (hpl : (backTo pos (starEach es X.env)).any (·.1) = false := by rfl) : PE X (.Call (.Name x p) (e :: es) [] pos) (tCall sp [] E0 t) := by
  obtain ⟨f, fd, F, hk, hm, hb⟩ := D.ex
  refine ⟨fun pins s σ H Q I h => wpAny_Call_Name_kw (ld_glob I hg hm (PySem.W.callWith_K (h₀ := X.base) I.ok.mod.kin hk (thn (ha.run pos pins s σ H _ I h) fun us s1 ⟨vs, H1, I1, r, q⟩ => ⟨I1.kIn, ?_⟩) he hpl) hdb)⟩
  have q' : sp vs H1 Q E0 := by
    have z : sp (vs ++ []) H1 Q E0 := q
    rw [List.append_nil] at z
    exact z
  exact run_G F hr hb (fun _ _ z => (cx_no z).elim) I1 r q'
/-- a def with defaults that may raise -/
structure DxD (P : Program) (w : World) (K : PySem.W.Frag) (mg : Str → Option Value) (base : Heap) (k : Nat) (x : Str) (ps : List Str) (dvs : List V) (sp : Sp) : Prop where
  ex : ∃ (f : Addr) (fd : FuncData) (ds : List Value), FnG P w K mg base (L2.CX P w) k f fd ps sp ∧ PySem.W.keepIn K (.ref f) = true ∧ mg x = some (.ref f) ∧ Binds K fd ps ds ∧ Vals dvs ds
theorem Dfd.okX {P : Program} {w : World} {K : PySem.W.Frag} {mg : Str → Option Value} {base : Heap} {x : Str} {st : Stmt} {dvs : List V} (D : Dfd K mg x st ps dvs)
    (h : ∀ f fd, FunA K x x st f fd → FnG P w K mg base (L2.CX P w) k f fd ps sp) : DxD P w K mg base k x ps dvs sp := by
  obtain ⟨f, fd, ds, F, kp, m, b, d⟩ := D.ex
  exact ⟨f, fd, ds, h f fd F, kp, m, b, d⟩
theorem pe_cXd {dvs : List V} (D : DxD X.prog X.w X.K X.mg X.base k x ps dvs sp) (hr : RoomG k X.A) (tk : Takes X W) (hg : Gl X x) (ha : PA X (e :: es) t) (hdb : (x == ("__debug__" : Str)) = false := by decide)
    (he : starEach (e :: es) X.env = (false, eval e X.env) :: starEach es X.env := by rfl) (hpl : (backTo pos (starEach es X.env)).any (·.1) = false := by rfl) : PE X (.Call (.Name x p) (e :: es) [] pos) (fun σ H Q => t σ H fun vs H1 => sp (vs ++ dvs) H1 Q (WE W σ)) := by
  obtain ⟨f, fd, ds, F, hk, hm, hb, hd⟩ := D.ex
  exact ⟨fun pins s σ H Q I h => wpAny_Call_Name_kw (ld_glob I hg hm (PySem.W.callWith_K (h₀ := X.base) I.ok.mod.kin hk (thn (ha.run pos pins s σ H _ I h) fun us s1 ⟨vs, H1, I1, r, q⟩ => ⟨I1.kIn, run_Gd F hr hb hd (fun e s' c => passAt tk σ pins H1 s1 e s' I1 c) I1 r q⟩) he hpl) hdb)⟩
theorem pe_cXdn {dvs : List V} (D : DxD X.prog X.w X.K X.mg X.base k x ps dvs sp) (hr : RoomG k X.A) (hg : Gl X x) (ha : PA X (e :: es) t) (hdb : (x == ("__debug__" : Str)) = false := by decide)
    (he : starEach (e :: es) X.env = (false, eval e X.env) :: starEach es X.env := by rfl) (hpl : (backTo pos (starEach es X.env)).any (·.1) = false := by rfl) : PE X (.Call (.Name x p) (e :: es) [] pos) (tCall sp dvs E0 t) := by
  obtain ⟨f, fd, ds, F, hk, hm, hb, hd⟩ := D.ex
  exact ⟨fun pins s σ H Q I h => wpAny_Call_Name_kw (ld_glob I hg hm (PySem.W.callWith_K (h₀ := X.base) I.ok.mod.kin hk (thn (ha.run pos pins s σ H _ I h) fun us s1 ⟨vs, H1, I1, r, q⟩ => ⟨I1.kIn, run_Gd F hr hb hd (fun _ _ z => (cx_no z).elim) I1 r q⟩) he hpl) hdb)⟩
/-- a method that may raise -/
structure DxM (P : Program) (w : World) (K : PySem.W.Frag) (mg : Str → Option Value) (base : Heap) (C : Addr) (k : Nat) (m : Str) (ps : List Str) (sp : Sp) : Prop where
  ex : ∃ f fd, FnG P w K mg base (L2.CX P w) k f fd ps sp ∧ Meth K C m f ∧ Binds K fd ps []
theorem DfM.okX {P : Program} {w : World} {K : PySem.W.Frag} {mg : Str → Option Value} {base : Heap} {C : Addr} {m q : Str} {st : Stmt} (D : DfM K C m q st ps)
    (h : ∀ f fd, Fun K m q st f fd → FnG P w K mg base (L2.CX P w) k f fd ps sp) : DxM P w K mg base C k m ps sp := by
  obtain ⟨f, fd, F, mt, b⟩ := D.ex
  exact ⟨f, fd, h f fd F, mt, b⟩
variable {m : Str} {apos : Pos} {o : Expr} {ta : TE} {C : Addr}
def tMethX (C : Addr) (m : Str) (sp : Sp) (W : WX) (ta : TE) (t : TA) : TE := fun σ H Q => ta σ H fun x H1 => ∃ a dx fs, x = .ref a ∧ H1 a = some (.ins C dx fs) ∧ fs.lookup m = none ∧ t σ H1 fun vs H2 => sp (x :: vs) H2 Q (WE W σ)
theorem pe_mX {pl : Sem Bool} (D : DxM X.prog X.w X.K X.mg X.base C k m ps sp) (c : Cls X.K C) (hr : RoomG k X.A) (tk : Takes X W) (he : PE X o ta) (ha : PA X (e :: es) t)
    (hst : starEach (e :: es) X.env = (false, eval e X.env) :: starEach es X.env := by rfl) (hpl : (backTo pos (starEach es X.env)).any (·.1) = false := by rfl)
    (ht : eval (.Call (.Attribute o m apos) (e :: es) [] pos) X.env = (do
      let ov ← eval o X.env
      standAt apos.atName
      let (f, first) ← holding [ov] (getMethod ov m pl)
      callWith pos f first (backTo pos (starEach (e :: es) X.env)) (backToKw pos (keywordEach [] X.env))) := by rfl) :
    PE X (.Call (.Attribute o m apos) (e :: es) [] pos) (tMethX C m sp W ta t) := by
  obtain ⟨f, fd, F, hm, hb⟩ := D.ex
  refine ⟨fun pins s σ H Q I h => ?_⟩
  refine PySem.W.methodCall_KW (pl := pl) (thn (he.run pins s σ H _ I h) fun u s1 ⟨x, H1, I1, rx, a, dx, fs, ex, ea, l, q⟩ => ?_) ht
  subst ex
  obtain rfl : u = Value.ref a := rx
  refine getmeth_ok I1 ea c hm l ?_
  refine PySem.W.callWith_K (first := [.ref a]) (h₀ := X.base) I.ok.mod.kin hm.kp (thn (ha.run pos pins s1 σ H1 _ I1 q) fun us s2 ⟨vs, H2, I2, r, q2⟩ => ⟨I2.kIn, ?_⟩) hst hpl
  exact run_G (us := .ref a :: us) (vs := .ref a :: vs) F hr hb (fun e s' c => passAt tk σ pins H2 s2 e s' I2 c) I2 (.cons rfl r) q2
theorem pe_mXn {pl : Sem Bool} (D : DxM X.prog X.w X.K X.mg X.base C k m ps sp) (c : Cls X.K C) (hr : RoomG k X.A) (he : PE X o ta) (ha : PA X (e :: es) t)
    (hst : starEach (e :: es) X.env = (false, eval e X.env) :: starEach es X.env := by rfl) (hpl : (backTo pos (starEach es X.env)).any (·.1) = false := by rfl)
    (ht : eval (.Call (.Attribute o m apos) (e :: es) [] pos) X.env = (do
      let ov ← eval o X.env
      standAt apos.atName
      let (f, first) ← holding [ov] (getMethod ov m pl)
      callWith pos f first (backTo pos (starEach (e :: es) X.env)) (backToKw pos (keywordEach [] X.env))) := by rfl) :
    PE X (.Call (.Attribute o m apos) (e :: es) [] pos) (tMeth C m sp [] E0 ta t) := by
  obtain ⟨f, fd, F, hm, hb⟩ := D.ex
  refine ⟨fun pins s σ H Q I h => ?_⟩
  refine PySem.W.methodCall_KW (pl := pl) (thn (he.run pins s σ H _ I h) fun u s1 ⟨x, H1, I1, rx, a, dx, fs, ex, ea, l, q⟩ => ?_) ht
  subst ex
  obtain rfl : u = Value.ref a := rx
  refine getmeth_ok I1 ea c hm l ?_
  refine PySem.W.callWith_K (first := [.ref a]) (h₀ := X.base) I.ok.mod.kin hm.kp (thn (ha.run pos pins s1 σ H1 _ I1 q) fun us s2 ⟨vs, H2, I2, r, q2⟩ => ⟨I2.kIn, ?_⟩) hst hpl
  have q' : sp (.ref a :: vs) H2 Q E0 := by
    have z : sp (.ref a :: (vs ++ [])) H2 Q E0 := q2
    rw [List.append_nil] at z
    exact z
  exact run_G (us := .ref a :: us) (vs := .ref a :: vs) F hr hb (fun _ _ z => (cx_no z).elim) I2 (.cons rfl r) q'
/-- a maker that may raise -/
structure DxI (P : Program) (w : World) (K : PySem.W.Frag) (mg : Str → Option Value) (base : Heap) (C : Addr) (k : Nat) (ps : List Str) (sp : Sp) : Prop where
  ex : ∃ f fd, FnG P w K mg base (L2.CX P w) k f fd ps sp ∧ Mk K C f ∧ Binds K fd ps []
theorem DfI.okX {P : Program} {w : World} {K : PySem.W.Frag} {mg : Str → Option Value} {base : Heap} {C : Addr} {q : Str} {st : Stmt} (D : DfI K C q st ps)
    (h : ∀ f fd, Fun K "__init__" q st f fd → FnG P w K mg base (L2.CX P w) k f fd ps sp) : DxI P w K mg base C k ps sp := by
  obtain ⟨f, fd, F, mt, b⟩ := D.ex
  exact ⟨f, fd, h f fd F, mt, b⟩
theorem run_mkX {pins : List (Addr × Obj)} {σ : L2.St} {H : Hp} {s : Shared} {Q : VK} {E : XK} {us : List Value} {vs : List V} {f : Addr} {fd : FuncData} (M : Mk X.K C f) (F : FnG X.prog X.w X.K X.mg X.base (L2.CX X.prog X.w) k f fd ps sp) (hr : RoomG (k + 1) X.A) (hb : Binds X.K fd ps [])
    (out : ∀ (H2 : Hp) (s2 : Shared) e s', Inv X pins σ H2 s2 → L2.CX X.prog X.w X.stack H2 s2 E e s' → X.xe e s') (I : Inv X pins σ H s) (r : Vals vs us)
    (h : ∀ x dx, H x = none → H dx = none → dx ≠ x → sp (.ref x :: vs) (upd (upd H dx (.own x)) x (.ins C dx [])) (fun v H2 => v = .non ∧ Q (.ref x) H2) E) :
    wpAny (model X.prog X.w) X.A (call (.ref C) us) (EP X pins σ Q) X.xe s := by
  have hq := h (s.heap.objs.size + 1) s.heap.objs.size (I.hok.fresh (Nat.le_succ _)) (I.hok.fresh (Nat.le_refl _)) (Nat.ne_of_lt (Nat.lt_succ_self _))
  have I2 := Inv.made (C := C) I
  have r2 : Vals (V.ref (s.heap.objs.size + 1) :: vs) (Value.ref (s.heap.objs.size + 1) :: us) := .cons rfl r
  have hl : (Value.ref (s.heap.objs.size + 1) :: us).length = ps.length := by
    rw [← r2.length]
    exact F.arity _ _ _ _ hq
  have b := hb { s with heap := _ } (Value.ref (s.heap.objs.size + 1) :: us) I2.kIn (by rw [List.append_nil]; exact hl)
  rw [List.append_nil] at b
  refine wpAny_call (make_map (f := f) I.kIn M.makes M.init (beq_iff_eq.mp M.fn) (codeAny_mono (F.go (hr.make C us []) (I2.env0.make C us []) b r2 hq) fun r s' hq' => ?_))
  cases r with
  | error e => exact out _ _ e s' I2 hq'
  | ok fl =>
    match fl, hq' with
    | .ret u, hq' =>
      obtain ⟨v, H', I3, rv, ev, q3⟩ := I2.after hq'
      subst ev
      exact ⟨rv, ⟨V.ref (s.heap.objs.size + 1), H', I3, rfl, q3⟩⟩
def tMakeX (C : Addr) (sp : Sp) (W : WX) (t : TA) : TE := fun σ H Q => t σ H fun vs H1 => ∀ x dx, H1 x = none → H1 dx = none → dx ≠ x → sp (.ref x :: vs) (upd (upd H1 dx (.own x)) x (.ins C dx [])) (fun v H2 => v = .non ∧ Q (.ref x) H2) (WE W σ)
theorem pe_mkX (D : DxI X.prog X.w X.K X.mg X.base C k ps sp) (hr : RoomG (k + 1) X.A) (tk : Takes X W) (hg : Gl X x) (hm : X.mg x = some (.ref C)) (ha : PA X (e :: es) t) (hdb : (x == ("__debug__" : Str)) = false := by decide)
    (he : starEach (e :: es) X.env = (false, eval e X.env) :: starEach es X.env := by rfl) (hpl : (backTo pos (starEach es X.env)).any (·.1) = false := by rfl) :
    PE X (.Call (.Name x p) (e :: es) [] pos) (tMakeX C sp W t) := by
  obtain ⟨f, fd, F, M, hb⟩ := D.ex
  refine ⟨fun pins s σ H Q I h => ?_⟩
  refine wpAny_Call_Name_kw (ld_glob I hg hm ?_ hdb)
  refine PySem.W.callWith_K (h₀ := X.base) I.ok.mod.kin M.kp (thn (ha.run pos pins s σ H _ I h) fun us s1 ⟨vs, H1, I1, r, q⟩ => ⟨I1.kIn, ?_⟩) he hpl
  exact run_mkX M F hr hb (fun H2 s2 e s' I2 c => passAt tk σ pins H2 s2 e s' I2 c) I1 r q
theorem pe_mkXn (D : DxI X.prog X.w X.K X.mg X.base C k ps sp) (hr : RoomG (k + 1) X.A) (hg : Gl X x) (hm : X.mg x = some (.ref C)) (ha : PA X (e :: es) t) (hdb : (x == ("__debug__" : Str)) = false := by decide)
    (he : starEach (e :: es) X.env = (false, eval e X.env) :: starEach es X.env := by rfl) (hpl : (backTo pos (starEach es X.env)).any (·.1) = false := by rfl) :
    PE X (.Call (.Name x p) (e :: es) [] pos) (tMake C sp [] E0 t) := by
  obtain ⟨f, fd, F, M, hb⟩ := D.ex
  refine ⟨fun pins s σ H Q I h => ?_⟩
  refine wpAny_Call_Name_kw (ld_glob I hg hm ?_ hdb)
  refine PySem.W.callWith_K (h₀ := X.base) I.ok.mod.kin M.kp (thn (ha.run pos pins s σ H _ I h) fun us s1 ⟨vs, H1, I1, r, q⟩ => ⟨I1.kIn, ?_⟩) he hpl
  exact run_mkX M F hr hb (fun _ _ _ _ _ c => (cx_no c).elim) I1 r fun x dx h1 h2 h3 => by
    have z := q x dx h1 h2 h3
    rw [List.append_nil] at z
    exact z
end
/-- bodies that may raise -/
theorem okGX {P : Program} {w : World} {K : PySem.W.Frag} {mg : Str → Option Value} {base : Heap} {x qual : Str} {st : Stmt} {f : Addr} {fd : FuncData} {N ps : List Str} {k : Nat} {sp : Sp} (F : Fun K x qual st f fd) (S : FnScope N ps (defScope st)) (ar : ∀ vs H Q E, sp vs H Q E → vs.length = ps.length)
    (body : ∀ (cdv : Value) (A : Around) (outer : List Env) (s : Shared) (H : Hp) (vs : List V) (Q : VK) (E : XK), RoomG k (A.deeper (envOfC qual (defScope st) s.heap.objs.size f cdv)) → sp vs H Q E →
      ∃ t, PSs (cxOf (L2.CX P w) P w K mg base N qual (defScope st) f cdv A outer s H E) (defBody st) t ∧ t { nx := fun _ H' => Q .non H', rt := Q } (start N vs) H) : FnG P w K mg base (L2.CX P w) (k + 1) f fd ps sp :=
  okGA (toA F) S ar body
/-- a class of errors -/
structure ExcF (K : PySem.W.Frag) (mg : Str → Option Value) (x : Str) : Prop where
  mg_ : mg x = some (.ref (cAt mg x))
  ex : PySem.W.excIn K (cAt mg x) [.type "ValueError", .type "Exception", .type "BaseException", .type "object"] "ValueError.__new__" = true
  kp : PySem.W.keepIn K (.ref (cAt mg x)) = true
  bs : PySem.W.subIn K (.ref (cAt mg x)) (.type "BaseException") = some true
  tp : PySem.W.typeIn K (.ref (cAt mg x)) = some (.type "type")
  is : PySem.W.isClsIn K (cAt mg x) = true
theorem ExcF.of {K : PySem.W.Frag} {mg : Str → Option Value} {x : Str} {C : Addr} (m : mg x = some (.ref C)) (h1 : PySem.W.excIn K C [.type "ValueError", .type "Exception", .type "BaseException", .type "object"] "ValueError.__new__" = true) (h2 : PySem.W.keepIn K (.ref C) = true)
    (h3 : PySem.W.subIn K (.ref C) (.type "BaseException") = some true) (h4 : PySem.W.typeIn K (.ref C) = some (.type "type")) (h5 : PySem.W.isClsIn K C = true) : ExcF K mg x := by
  have e := cAt_eq m
  exact ⟨by rw [e]; exact m, by rw [e]; exact h1, by rw [e]; exact h2, by rw [e]; exact h3, by rw [e]; exact h4, by rw [e]; exact h5⟩
/-- one class stands under another one, or does not -/
def SubF (K : PySem.W.Frag) (mg : Str → Option Value) (x y : Str) (b : Bool) : Prop := PySem.W.subIn K (.ref (cAt mg x)) (.ref (cAt mg y)) = some b
theorem SubF.of {K : PySem.W.Frag} {mg : Str → Option Value} {x y : Str} {C D : Addr} {b : Bool} (m : mg x = some (.ref C)) (m' : mg y = some (.ref D)) (h : PySem.W.subIn K (.ref C) (.ref D) = some b) : SubF K mg x y b := by
  unfold SubF
  rw [cAt_eq m, cAt_eq m']
  exact h
/-- what an except clause asks -/
theorem exm_of {K : PySem.W.Frag} {mg : Str → Option Value} {x y : Str} {b : Bool} (Y : ExcF K mg y) (h : SubF K mg x y b) : PySem.W.exmOne K (.ref (cAt mg x)) (.ref (cAt mg y)) = some b := by
  have e1 : (PySem.W.subIn K (.ref (cAt mg y)) (.type "BaseException") == some true) = true := by rw [Y.bs] <;> rfl
  have e2 : ((PySem.W.clsIn K (cAt mg y)).isSome && PySem.W.typeIn K (.ref (cAt mg y)) == some (.type "type")) = true := by
    have h2' : (PySem.W.clsIn K (cAt mg y)).isSome = true := Y.is
    rw [h2', Y.tp] <;> rfl
  show (if (PySem.W.subIn K (.ref (cAt mg y)) (.type "BaseException") == some true) = true then (if ((PySem.W.clsIn K (cAt mg y)).isSome && PySem.W.typeIn K (.ref (cAt mg y)) == some (.type "type")) = true then PySem.W.subIn K (.ref (cAt mg x)) (.ref (cAt mg y)) else none) else none) = some b
  rw [if_pos e1, if_pos e2]
  exact h
end Toy
namespace Toy
open PySem PySem.Spec PyProof.Rows L2
/-! ### isinstance of a caught error -/
def rIsX (K : PySem.W.Frag) (cls : Value) (d : Option Addr) (a : Addr) : List V → Hp → VK → Prop := fun xs H Q => ∃ (D : Addr) (c : V) (cv : Value) (b : Bool), xs = [.ref a, c] ∧ cls = .ref D ∧ d = none ∧ ExcC K D ∧ ClsV c cv ∧ PySem.W.kitOne K (.ref D) cv = some b ∧ Q (.bl b) H
theorem call_isX {X : Cx} {a : Addr} {cls : Value} {d : Option Addr} {oe : Obj} {pn : List (Addr × Obj)} (hz : Zc cls d oe) (hf : ∃ vs, oe.data = .fields vs) : CallR (X.suite a ((a, oe) :: pn)) (.builtin "isinstance") (rIsX X.K cls d a) := by
  intro pins s σ H xs us Q I r h
  obtain ⟨D, c, cv, b, rfl, rfl, rfl, C, hc, e, q⟩ := h
  exact call_isE C hz hf pins s σ H _ us Q I r ⟨c, cv, b, rfl, fun u ru => hc.eq ru, e, q⟩
/-- .. with a tuple of classes -/
def rIsXT (K : PySem.W.Frag) (cls : Value) (d : Option Addr) (a : Addr) : List V → Hp → VK → Prop := fun xs H Q => ∃ (D tp : Addr) (cs : List V) (us : List Value) (b : Bool), xs = [.ref a, .ref tp] ∧ cls = .ref D ∧ d = none ∧ ExcC K D ∧ H tp = some (.tup cs) ∧ Paired ClsV cs us ∧ PySem.W.kitAny K (.ref D) us = some b ∧ Q (.bl b) H
theorem call_isXT {X : Cx} {a : Addr} {cls : Value} {d : Option Addr} {oe : Obj} {pn : List (Addr × Obj)} (hz : Zc cls d oe) (hf : ∃ vs, oe.data = .fields vs) : CallR (X.suite a ((a, oe) :: pn)) (.builtin "isinstance") (rIsXT X.K cls d a) := by
  intro pins s σ H xs us Q I r h
  obtain ⟨D, tp, cs, ws, b, rfl, rfl, rfl, C, hT, k, e, q⟩ := h
  obtain ⟨u1, u2, rfl, r1, r2⟩ := vals2 r
  cases (show u1 = Value.ref a from r1)
  cases (show u2 = Value.ref tp from r2)
  obtain ⟨hget, _⟩ := I.pin (a, oe) (List.mem_append.mpr (.inl List.mem_cons_self))
  obtain ⟨vs, hv⟩ := hf
  have J : PySem.W.InstAt s.heap a oe D none := by
    obtain ⟨oc, od, oda, osl⟩ := oe
    obtain ⟨h1, h2⟩ := hz
    dsimp only at h1 h2 hv
    subst h1 h2 hv
    exact ⟨hget, rfl, rfl, trivial⟩
  obtain ⟨_, its, rv, o, h1, h2, n, h3⟩ := (show ObjOk (X.suite a ((a, oe) :: pn)).prog (X.suite a ((a, oe) :: pn)).w H s.heap tp (.tup cs) from I.hok tp _ hT)
  have e3 := ClsV.all k rv
  subst e3
  obtain ⟨oc, od, dt, sl⟩ := o
  simp only at h2 h3
  subst h2 h3
  exact PySem.W.kia_tup (PySem.W.handS_kitx_exc C.hg C.hk C.hs C.hd C.ha C.hn C.ht C.hm) I.kIn J h1 e (fun z => nomatch z) fun tk => ⟨.bl b, H, I.kept (t' := tk) fun _ _ z => z, rfl, q⟩
/-- one class, asked by isinstance -/
theorem kitO {K : PySem.W.Frag} {mg : Str → Option Value} {x y : Str} {b : Bool} (Y : ExcF K mg y) (hx : SubF K mg x x true) (h : SubF K mg x y b) : PySem.W.kitOne K (.ref (cAt mg x)) (.ref (cAt mg y)) = some b := by
  unfold PySem.W.kitOne
  by_cases e : (Value.ref (cAt mg x) == Value.ref (cAt mg y)) = true
  · rw [if_pos e]
    have e' : cAt mg x = cAt mg y := Value.ref.inj (beq_iff_eq.mp e)
    unfold SubF at h hx
    rw [← e', hx] at h
    exact h
  · rw [if_neg e]
    have e2 : ((PySem.W.clsIn K (cAt mg y)).isSome && PySem.W.typeIn K (.ref (cAt mg y)) == some (.type "type")) = true := by
      have h2' : (PySem.W.clsIn K (cAt mg y)).isSome = true := Y.is
      rw [h2', Y.tp] <;> rfl
    show (if ((PySem.W.clsIn K (cAt mg y)).isSome && PySem.W.typeIn K (.ref (cAt mg y)) == some (.type "type")) = true then PySem.W.subIn K (.ref (cAt mg x)) (.ref (cAt mg y)) else none) = some b
    rw [if_pos e2]
    exact h
structure ExcI (K : PySem.W.Frag) (mg : Str → Option Value) (x : Str) : Prop where
  c : ExcC K (cAt mg x)
  ve : PySem.W.subIn K (.ref (cAt mg x)) (.type "ValueError") = some true
theorem ExcI.of {K : PySem.W.Frag} {mg : Str → Option Value} {x : Str} {C : Addr} (m : mg x = some (.ref C)) (h : ExcC K C) (v : PySem.W.subIn K (.ref C) (.type "ValueError") = some true) : ExcI K mg x := by
  have e := cAt_eq m
  exact ⟨by rw [e]; exact h, by rw [e]; exact v⟩
theorem kitVE {K : PySem.W.Frag} {mg : Str → Option Value} {x : Str} (h : ExcI K mg x) : PySem.W.kitOne K (.ref (cAt mg x)) (.type "ValueError") = some true := by
  unfold PySem.W.kitOne
  have e : ¬ (Value.ref (cAt mg x) == Value.type "ValueError") = true := fun z => by cases (beq_iff_eq.mp z)
  rw [if_neg e]
  show (if PySem.W.kitMeta "ValueError" = true then PySem.W.subIn K (.ref (cAt mg x)) (.type "ValueError") else none) = some true
  rw [if_pos (by decide +kernel)]
  exact h.ve
end Toy
namespace Toy
open PySem PySem.Spec PyProof.Rows L2
theorem kitAnyF {K : PySem.W.Frag} {mg : Str → Option Value} {t : Value} : ∀ {ys : List Str}, (∀ y ∈ ys, PySem.W.kitOne K t (.ref (cAt mg y)) = some false) → PySem.W.kitAny K t (ys.map fun y => Value.ref (cAt mg y)) = some false
  | [], _ => kitAny_nil
  | y :: ys, h => kitAny_cons (h y List.mem_cons_self) (fun _ => kitAnyF fun z hz => h z (List.mem_cons_of_mem _ hz)) (fun z => by cases z)
theorem pairOwn {mg : Str → Option Value} : ∀ ys : List Str, Paired ClsV (ys.map fun y => V.ref (cAt mg y)) (ys.map fun y => Value.ref (cAt mg y))
  | [] => .nil
  | y :: ys => .cons (.own _) (pairOwn ys)
end Toy
namespace Toy
open PySem PySem.Spec PyProof.Rows L2
section
variable {X : Cx} {i k1 k2 : Nat} {x : Str} {p pos : Pos} {e : Expr} {es : List Expr} {t : TA} {W : WX}
/-- a local that holds one of two defs, called; both may raise -/
def tCvW (i : Nat) (f1 f2 : Addr) (sp1 sp2 : Sp) (W : WX) (t : TA) : TE := fun σ H Q =>
  (σ[i]? = some (some (.ref f1)) ∧ t σ H fun vs H1 => sp1 vs H1 Q (WE W σ)) ∨ (σ[i]? = some (some (.ref f2)) ∧ t σ H fun vs H1 => sp2 vs H1 Q (WE W σ))
theorem Dx.mg {P : Program} {w : World} {K : PySem.W.Frag} {mg : Str → Option Value} {base : Heap} {k : Nat} {x : Str} {ps : List Str} {sp : Sp} (D : Dx P w K mg base k x ps sp) : mg x = some (.ref (cAt mg x)) := by
  obtain ⟨f, fd, F, hk, hm, hb⟩ := D.ex
  rw [cAt_eq hm]
  exact hm
theorem pe_cvW {mg : Str → Option Value} {x1 x2 : Str} {ps1 ps2 : List Str} {sp1 sp2 : Sp} (D1 : Dx X.prog X.w X.K mg X.base k1 x1 ps1 sp1) (D2 : Dx X.prog X.w X.K mg X.base k2 x2 ps2 sp2) (r1 : RoomG k1 X.A) (r2 : RoomG k2 X.A) (tk : Takes X W) (ha : PA X (e :: es) t)
    (hN : X.N[i]? = some x := by rfl) (hv : Vis X.env.scope x := by first | exact Or.inl rfl | exact Or.inr (Or.inl rfl) | exact Or.inr (Or.inr rfl)) (hd : (x == ("__debug__" : Str)) = false := by decide) (hcd : (x == ("__classdict__" : Str)) = false := by decide)
    (he : starEach (e :: es) X.env = (false, eval e X.env) :: starEach es X.env := by rfl) (hpl : (backTo pos (starEach es X.env)).any (·.1) = false := by rfl) (em : mg = X.mg := by rfl) :
    PE X (.Call (.Name x p) (e :: es) [] pos) (tCvW i (cAt mg x1) (cAt mg x2) sp1 sp2 W t) := by
  subst em
  have one : ∀ {k : Nat} {y : Str} {ps : List Str} {sp : Sp} (pins : List (Addr × Obj)) (s : Shared) (σ : L2.St) (H : Hp) (Q : VK), Dx X.prog X.w X.K X.mg X.base k y ps sp → RoomG k X.A → Inv X pins σ H s → σ[i]? = some (some (.ref (cAt X.mg y))) →
      (t σ H fun vs H1 => sp vs H1 Q (WE W σ)) → wpAny (model X.prog X.w) X.A (eval (.Call (.Name x p) (e :: es) [] pos) X.env) (EP X pins σ Q) X.xe s := by
    intro k y ps sp pins s σ H Q D hr I hs ht
    obtain ⟨f, fd, F, hk, hm, hb⟩ := D.ex
    rw [cAt_eq hm] at hs
    have look := (pe_var (pos := p) hN hv hd hcd).run pins s σ H (fun v H1 => v = .ref f ∧ H1 = H) I ⟨.ref f, hs, rfl, rfl⟩
    refine wpAny_Call_Name_kw (thn look ?_)
    rintro u s1 ⟨v, H1, I1, q1, rfl, rfl⟩
    cases q1
    have args := ha.run pos pins s1 σ _ _ I1 ht
    refine PySem.W.callWith_K (h₀ := X.base) I.ok.mod.kin hk (thn args ?_) he hpl
    rintro us s2 ⟨vs, H2, I2, r, q⟩
    exact ⟨I2.kIn, run_G F hr hb (fun e s' c => passAt tk σ pins H2 s2 e s' I2 c) I2 r q⟩
  constructor
  rintro pins s σ H Q I (⟨h1, h2⟩ | ⟨h1, h2⟩)
  · exact one pins s σ H Q D1 r1 I h1 h2
  · exact one pins s σ H Q D2 r2 I h1 h2
end
end Toy
namespace Toy
open PySem L2
def top (i : Nat) : Stmt := PySem.Challenge.pw_joinedasks_k83_spread_and_toggles_refuse.main.body.getD i (.Pass ⟨0, 0, 0, 0⟩)
abbrev s__wall : Stmt := top 0
theorem sc__wall : FnScope ["k"] ["k"] (defScope s__wall) := ⟨rfl, rfl, rfl, by decide +kernel, rfl, by decide +kernel, by decide +kernel⟩
abbrev s_is_whole : Stmt := top 7
theorem sc_is_whole : FnScope ["thing"] ["thing"] (defScope s_is_whole) := ⟨rfl, rfl, rfl, by decide +kernel, rfl, by decide +kernel, by decide +kernel⟩
abbrev s_is_within : Stmt := top 8
theorem sc_is_within : FnScope ["thing", "least", "most"] ["thing", "least", "most"] (defScope s_is_within) := ⟨rfl, rfl, rfl, by decide +kernel, rfl, by decide +kernel, by decide +kernel⟩
abbrev s_want_within : Stmt := top 9
theorem sc_want_within : FnScope ["thing", "least", "most"] ["thing", "least", "most"] (defScope s_want_within) := ⟨rfl, rfl, rfl, by decide +kernel, rfl, by decide +kernel, by decide +kernel⟩
abbrev s_want_from : Stmt := top 10
theorem sc_want_from : FnScope ["thing", "least"] ["thing", "least"] (defScope s_want_from) := ⟨rfl, rfl, rfl, by decide +kernel, rfl, by decide +kernel, by decide +kernel⟩
abbrev s_want_net : Stmt := top 11
theorem sc_want_net : FnScope ["k", "deepest"] ["k", "deepest"] (defScope s_want_net) := ⟨rfl, rfl, rfl, by decide +kernel, rfl, by decide +kernel, by decide +kernel⟩
abbrev s_piece_of : Stmt := top 14
theorem sc_piece_of : FnScope ["k", "address"] ["k", "address"] (defScope s_piece_of) := ⟨rfl, rfl, rfl, by decide +kernel, rfl, by decide +kernel, by decide +kernel⟩
abbrev s_folded_pieces : Stmt := top 15
theorem sc_folded_pieces : FnScope ["k", "address", "found"] ["k", "address"] (defScope s_folded_pieces) := ⟨rfl, rfl, rfl, by decide +kernel, rfl, by decide +kernel, by decide +kernel⟩
abbrev s_place_of : Stmt := top 16
theorem sc_place_of : FnScope ["k", "address"] ["k", "address"] (defScope s_place_of) := ⟨rfl, rfl, rfl, by decide +kernel, rfl, by decide +kernel, by decide +kernel⟩
abbrev s_side_at : Stmt := top 17
theorem sc_side_at : FnScope ["k", "address"] ["k", "address"] (defScope s_side_at) := ⟨rfl, rfl, rfl, by decide +kernel, rfl, by decide +kernel, by decide +kernel⟩
abbrev s_side_of : Stmt := top 18
theorem sc_side_of : FnScope ["k", "address"] ["k", "address"] (defScope s_side_of) := ⟨rfl, rfl, rfl, by decide +kernel, rfl, by decide +kernel, by decide +kernel⟩
abbrev s_address_at : Stmt := top 19
theorem sc_address_at : FnScope ["k", "side", "place"] ["k", "side", "place"] (defScope s_address_at) := ⟨rfl, rfl, rfl, by decide +kernel, rfl, by decide +kernel, by decide +kernel⟩
abbrev s_lying : Stmt := top 20
theorem sc_lying : FnScope ["k", "begin", "step", "many", "found", "turn"] ["k", "begin", "step", "many"] (defScope s_lying) := ⟨rfl, rfl, rfl, by decide +kernel, rfl, by decide +kernel, by decide +kernel⟩
abbrev s_merged : Stmt := top 23
theorem sc_merged : FnScope ["one", "other", "first", "upper", "second", "lower", "last", "row", "pair"] ["one", "other"] (defScope s_merged) := ⟨rfl, rfl, rfl, by decide +kernel, rfl, by decide +kernel, by decide +kernel⟩
abbrev s_counted_lines : Stmt := top 24
theorem sc_counted_lines : FnScope ["lines", "half", "first", "upper", "second", "lower", "last", "row"] ["lines"] (defScope s_counted_lines) := ⟨rfl, rfl, rfl, by decide +kernel, rfl, by decide +kernel, by decide +kernel⟩
abbrev s_counting_net : Stmt := top 25
theorem sc_counting_net : FnScope ["k"] ["k"] (defScope s_counting_net) := ⟨rfl, rfl, rfl, by decide +kernel, rfl, by decide +kernel, by decide +kernel⟩
abbrev s_toggles : Stmt := top 26
theorem sc_toggles : FnScope ["k"] ["k"] (defScope s_toggles) := ⟨rfl, rfl, rfl, by decide +kernel, rfl, by decide +kernel, by decide +kernel⟩
abbrev s_counted : Stmt := top 27
theorem sc_counted : FnScope ["k"] ["k"] (defScope s_counted) := ⟨rfl, rfl, rfl, by decide +kernel, rfl, by decide +kernel, by decide +kernel⟩
abbrev s__law_cell : Stmt := top 32
theorem sc__law_cell : FnScope ["_law_script", "_law_k"] ["_law_script", "_law_k"] (defScope s__law_cell) := ⟨rfl, rfl, rfl, by decide +kernel, rfl, by decide +kernel, by decide +kernel⟩
abbrev s__law_pot : Stmt := top 33
theorem sc__law_pot : FnScope ["_law_script", "_law_k", "_law_cell_here", "_law_mixed"] ["_law_script", "_law_k"] (defScope s__law_pot) := ⟨rfl, rfl, rfl, by decide +kernel, rfl, by decide +kernel, by decide +kernel⟩
abbrev s__law_draw : Stmt := top 34
theorem sc__law_draw : FnScope ["_law_pot_here", "_law_many", "_law_digit"] ["_law_pot_here", "_law_many"] (defScope s__law_draw) := ⟨rfl, rfl, rfl, by decide +kernel, rfl, by decide +kernel, by decide +kernel⟩
abbrev s__law_odd : Stmt := top 35
theorem sc__law_odd : FnScope ["_law_pot_here", "_law_least", "_law_most", "_law_far", "_law_menu"] ["_law_pot_here", "_law_least", "_law_most"] (defScope s__law_odd) := ⟨rfl, rfl, rfl, by decide +kernel, rfl, by decide +kernel, by decide +kernel⟩
abbrev s__law_kinds : Stmt := top 36
theorem sc__law_kinds : FnScope ["_law_which"] ["_law_which"] (defScope s__law_kinds) := ⟨rfl, rfl, rfl, by decide +kernel, rfl, by decide +kernel, by decide +kernel⟩
abbrev s__law_bounds : Stmt := top 37
theorem sc__law_bounds : FnScope ["_law_kind", "_law_k"] ["_law_kind", "_law_k"] (defScope s__law_bounds) := ⟨rfl, rfl, rfl, by decide +kernel, rfl, by decide +kernel, by decide +kernel⟩
abbrev s__law_good : Stmt := top 38
theorem sc__law_good : FnScope ["_law_pot_here", "_law_bounds_here", "_law_least", "_law_most"] ["_law_pot_here", "_law_bounds_here"] (defScope s__law_good) := ⟨rfl, rfl, rfl, by decide +kernel, rfl, by decide +kernel, by decide +kernel⟩
abbrev s__law_asked : Stmt := top 39
theorem sc__law_asked : FnScope ["_law_which", "_law_things"] ["_law_which", "_law_things"] (defScope s__law_asked) := ⟨rfl, rfl, rfl, by decide +kernel, rfl, by decide +kernel, by decide +kernel⟩
abbrev s__law_met : Stmt := top 40
theorem sc__law_met : FnScope ["_law_which", "_law_things", "_law_found", "e"] ["_law_which", "_law_things"] (defScope s__law_met) := ⟨rfl, rfl, rfl, by decide +kernel, rfl, by decide +kernel, by decide +kernel⟩
abbrev s__law_due : Stmt := top 41
theorem sc__law_due : FnScope ["_law_kinds_here", "_law_odd_here", "_law_due_here", "_law_kind", "_law_is_odd", "_law_place"] ["_law_kinds_here", "_law_odd_here"] (defScope s__law_due) := ⟨rfl, rfl, rfl, by decide +kernel, rfl, by decide +kernel, by decide +kernel⟩
abbrev s_law : Stmt := top 42
theorem sc_law : FnScope ["_law_script", "_law_k", "_law_pot_here", "_law_which", "_law_kinds_here", "_law_odd_here", "_law_turn", "_law_depth", "_law_things", "_law_kind", "_law_is_odd", "_law_bounds_here", "_law_good_here"] ["_law_script"] (defScope s_law) := ⟨rfl, rfl, rfl, by decide +kernel, rfl, by decide +kernel, by decide +kernel⟩
abbrev s_Counter____init__ : Stmt := inClass (top 30) 0
theorem sc_Counter____init__ : FnScope ["self", "k", "row"] ["self", "k"] (defScope s_Counter____init__) := ⟨rfl, rfl, rfl, by decide +kernel, rfl, by decide +kernel, by decide +kernel⟩
structure Bl (K : PySem.W.Frag) (mg : Str → Option Value) : Prop where
  ValueError_ : mg "ValueError" = none
  bool_ : mg "bool" = none
  divmod_ : mg "divmod" = none
  e_ : mg "e" = none
  int_ : mg "int" = none
  isinstance_ : mg "isinstance" = none
  len_ : mg "len" = none
  list_ : mg "list" = none
  max_ : mg "max" = none
  min_ : mg "min" = none
  range_ : mg "range" = none
  sorted_ : mg "sorted" = none
  tuple_ : mg "tuple" = none
  zip_ : mg "zip" = none
  MOST_LAID_ : ∃ t, mg "MOST_LAID" = some (.int (200) t)
  DEEPEST_ : ∃ t, mg "DEEPEST" = some (.int (3) t)
  OUT_ : ∃ t, mg "OUT" = some (.int (-1) t)
  AskError_ : ExcF K mg "AskError"
  NoNet_ : ExcF K mg "NoNet"
  NoNumber_ : ExcF K mg "NoNumber"
  NoSide_ : ExcF K mg "NoSide"
  NoNet_AskError_ : SubF K mg "NoNet" "AskError" true
  NoNet_NoNet_ : SubF K mg "NoNet" "NoNet" true
  NoNet_NoNumber_ : SubF K mg "NoNet" "NoNumber" false
  NoNet_NoSide_ : SubF K mg "NoNet" "NoSide" false
  NoNumber_AskError_ : SubF K mg "NoNumber" "AskError" true
  NoNumber_NoNet_ : SubF K mg "NoNumber" "NoNet" false
  NoNumber_NoNumber_ : SubF K mg "NoNumber" "NoNumber" true
  NoNumber_NoSide_ : SubF K mg "NoNumber" "NoSide" false
  NoSide_AskError_ : SubF K mg "NoSide" "AskError" true
  NoSide_NoNet_ : SubF K mg "NoSide" "NoNet" false
  NoSide_NoNumber_ : SubF K mg "NoSide" "NoNumber" false
  NoSide_NoSide_ : SubF K mg "NoSide" "NoSide" true
  NoNet_i : ExcI K mg "NoNet"
  NoNumber_i : ExcI K mg "NoNumber"
  NoSide_i : ExcI K mg "NoSide"
  Counter_ : ClsF K mg "Counter" ["at", "many_out", "pairs", "row", "ups"]

end Toy
/-! ### enumerate of a tuple -/
namespace PySem
open Sem (wp)
open AutoSeq1 (wpAny_loadPart')
theorem meets_enumerate_newTu (l : Addr) (items : Array Value) (n : Nat) (dct : Option Addr) (sl : Array (Option Value)) :
    Meets (Builtin.«enumerate.__new__» ⟨[.type "enumerate", .ref l], []⟩) (fun _ R s => s.heap.get? l = some { cls := .type "tuple", dict := dct, data := .seq items n, slots := sl } ∧
      R (.ok (.ret (.ref (s.heap.push { cls := .type "tuple_iterator", data := .fields #[.ref l, .int 0 0] }).objs.size)))
        { s with heap := (s.heap.push { cls := .type "tuple_iterator", data := .fields #[.ref l, .int 0 0] }).push { cls := .type "enumerate", data := .fields #[.none, .bool false, .ref s.heap.objs.size, rawInt 0, .none, .none] } }) :=
  .of_wp fun prog w A R s h => by
    obtain ⟨hp, g, d, tk, os⟩ := s; obtain ⟨hl, h⟩ := h
    have hsub := sub_enumerate
    have hL : Heap.IsTuple (Shared.heap ⟨hp, g, d, tk, os⟩) l items := ⟨_, hl, rfl, n, rfl⟩
    wp_walk using wpAny_loadPart' hl
    refine wpAny_stack_any fun st => wpAny_pure ?_
    split
    · rename_i c _ _ _ _ _
      cases (c == Value.type "enumerate")
      · wp_walk using wpAny_loadPart' hl, wpAny_pyIter_tuple hL
        exact ⟨_, rfl, h⟩
      · wp_walk using wpAny_loadPart' hl, wpAny_pyIter_tuple hL
        exact ⟨_, rfl, h⟩
    · wp_walk using wpAny_loadPart' hl, wpAny_pyIter_tuple hL
      exact ⟨_, rfl, h⟩
theorem call_enumerate_tup {prog : Program} {w : World} {A : Around} {E : Value → Shared → Prop} {s : Shared} {l : Addr} {items : Array Value} {Q : Value → Shared → Prop} (hL : s.heap.IsTuple l items)
    (h : ∀ h', IsEnum h' (s.heap.objs.size + 1) s.heap.objs.size 0 .none → h'.IsTupleIter s.heap.objs.size l 0 → h'.objs.size = s.heap.objs.size + 2 →
      (∀ b o, s.heap.get? b = some o → h'.get? b = some o) → Q (.ref (s.heap.objs.size + 1)) { s with heap := h' }) :
    wpAny (model prog w) A (call (.type "enumerate") [.ref l]) Q E s := by
  obtain ⟨⟨c, dct, dt, sl⟩, hl, hc, n, hd⟩ := hL
  replace hc : c = .type "tuple" := hc
  replace hd : dt = .seq items n := hd
  subst hc hd
  refine callType_new F.called_enumerate (by decide) (F.typeCall_enumerate_1 _) (F.newCall_enumerate_1 _) (fun obj => F.args_object_init_2 obj _) F.entry_enumerate_new
    (meets_enumerate_newTu l items n dct sl) ⟨hl, ?_⟩
  have hz : (s.heap.push { cls := .type "tuple_iterator", data := .fields #[.ref l, .int 0 0] }).objs.size = s.heap.objs.size + 1 := Heap.size_push ..
  show _ ∧ _
  rw [hz]
  have he : IsEnum ((s.heap.push { cls := .type "tuple_iterator", data := .fields #[.ref l, .int 0 0] }).push
      { cls := .type "enumerate", data := .fields #[.none, .bool false, .ref s.heap.objs.size, rawInt 0, .none, .none] }) (s.heap.objs.size + 1) s.heap.objs.size 0 .none := by
    have := Heap.get?_push_size (s.heap.push { cls := .type "tuple_iterator", data := .fields #[.ref l, .int 0 0] })
      (o := { cls := .type "enumerate", data := .fields #[.none, .bool false, .ref s.heap.objs.size, rawInt 0, .none, .none] }) rfl
    rw [hz] at this; exact this
  refine ⟨⟨_, he, rfl⟩, h _ he ⟨_, Heap.get?_push_of_some _ (Heap.get?_push_size _ rfl), rfl, rfl⟩ (by rw [Heap.size_push, hz]) fun b o x => Heap.get?_push_of_some _ (Heap.get?_push_of_some _ x)⟩
end PySem
namespace Toy
open PySem PySem.Spec PyProof.Rows L2
theorem tup_is {h : Heap} {a : Addr} {its : Array Value} (p : IsTup h a its) : h.IsTuple a its := p
/-- the tuple at a as it stands at each turn, each item in a new pair -/
def IteT (K : PySem.W.Frag) (a : Addr) : It :=
  ⟨fun i H => ∃ (xs : List V) (x : V), SqT K H a xs ∧ xs[i]? = some x, fun i H v H' => ∃ T x, v = .ref T ∧ H T = none ∧ H' = upd H T (.tup [.int (i : Nat), x]) ∧ ∀ xs, SqT K H a xs → xs[i]? = some x, fun i H => ∃ xs : List V, SqT K H a xs ∧ xs.length = i⟩
theorem turn_enumTu {P : Program} {w : World} {K : PySem.W.Frag} {elts : List Expr} {kk : Nat} {tpos : Pos} (a e it : Addr) (hai : a ≠ it) :
    Turn P w K (.Tuple elts kk tpos) (IteT K a) [e, it] e (fun i h => (∃ old, IsEnum h e it ((i : Nat) : Int) old) ∧ h.IsTupleIter it a i ∧ e ≠ it ∧ e ≠ a) where
  mem := by simp
  obj := fun i h st b hb => by
    obtain ⟨⟨old, he⟩, ⟨o, ho, hc, hd⟩, _⟩ := st
    have e' : b = e ∨ b = it := by simpa using hb
    rcases e' with z | z
    · rw [z]; exact ⟨_, he, fun v q => nomatch q⟩
    · rw [z]; exact ⟨o, ho, fun v q => by rw [hd] at q; cases q⟩
  keep := fun i h h' st k => let ⟨⟨old, he⟩, hi, hne⟩ := st; ⟨⟨old, k e (by simp) _ he⟩, hi.at fun o q => k it (by simp) o q, hne⟩
  item := by
    intro X hP hw hK hc i pins s σ H E I hf st hg
    subst hP hw hK
    obtain ⟨⟨old, he⟩, hit, hne, hea⟩ := st
    obtain ⟨xs, x, hq, hx⟩ := hg
    obtain ⟨its, rv, p, hz⟩ := I.tuple hq
    obtain ⟨u, hu, ru⟩ := rv.get hx
    have hel : e < s.heap.objs.size := Heap.lt_size he
    have hil : it < s.heap.objs.size := by obtain ⟨_, q, _⟩ := hit; exact Heap.lt_size q
    refine wpAny_pyNext_enum_itemD (Draws.tuple (show X.A.in1.handled = none from I.ok.hd hc) it a hai its.toArray) he ⟨hit, tup_is p⟩ (by have h1 := rv.length; have h2 := (List.getElem?_eq_some_iff.mp hx).1; rw [List.size_toArray]; omega) hne (by simp [hne, hea]) fun x' h' tk hP ho hst' hT hsz hk => ?_
    obtain ⟨hit', ht'⟩ := hst'
    have ex : x' = u := by
      have h1 : its[i]? = some x' := by simpa using hP
      rw [hu] at h1
      exact (Option.some.inj h1).symm
    subst ex
    refine ⟨_, rfl, wpAny_letOwnedTupleGo_enum (s := { s with heap := h', toks := tk + 1 }) ho fun h'' he' sb => ?_⟩
    have hT2 : h''.get? s.heap.objs.size = some { cls := .type "tuple", data := .seq #[.int i tk, x'] } := (sb.2 _ (Nat.ne_of_gt hel)).trans hT
    have new : ObjOk X.prog X.w (upd H s.heap.objs.size (.tup [.int (i : Nat), x])) h'' s.heap.objs.size (.tup [.int (i : Nat), x]) :=
      ⟨by show 2 ≤ sizeLine; decide, [.int i tk, x'], .cons ⟨_, rfl⟩ (.cons ru .nil), ⟨_, hT2, rfl, _, rfl⟩⟩
    have I1 : Inv X pins σ (upd H s.heap.objs.size (.tup [.int (i : Nat), x])) { s with heap := h'', toks := tk + 1 } :=
      I.turnedNew (ch := [e, it]) (fun b ob hb q => (sb.2 b (fun z => hb (by simp [z]))).trans (hk b ob (fun z => hb (by simp [z])) (fun z => hb (by simp [z])) q)) hf (Nat.le_refl _) new
    refine ⟨.ref s.heap.objs.size, _, I1, rfl, ⟨_, x, rfl, I.hok.fresh (Nat.le_refl _), rfl, fun ys hy => by rw [I.tuple_inj hy hq]; exact hx⟩, ⟨⟨x', ?_⟩, hit'.at fun o q => (sb.2 it (Ne.symm hne)).trans q, hne, hea⟩, fun b hb => ?_⟩
    · have e1 : ((i + 1 : Nat) : Int) = (i : Int) + 1 := by omega
      rw [e1]; exact he'
    · have hb' : b < s.heap.objs.size := by
        have e' : b = e ∨ b = it := by simpa using hb
        rcases e' with z | z
        · rw [z]; exact hel
        · rw [z]; exact hil
      rw [upd_ne (Nat.ne_of_lt hb')]
      exact (hf b hb).1
  done := by
    intro X hP hw hK hc i pins s σ H E I hf st hg
    subst hP hw hK
    obtain ⟨⟨old, he⟩, hit, hne, hea⟩ := st
    obtain ⟨xs, hq, hx⟩ := hg
    obtain ⟨its, rv, p, hz⟩ := I.tuple hq
    obtain ⟨f0, f1, f2, f3, f4, f5⟩ := hf it (by simp)
    have hl := rv.length
    have e2 : i = its.toArray.size := by rw [List.size_toArray]; omega
    rw [e2] at hit he
    exact wpAny_pyNext_enum_endD (Draws.tuple (show X.A.in1.handled = none from I.ok.hd hc) it a hai its.toArray) he ⟨hit, tup_is p⟩ fun h' eb => ⟨rfl, I.turned (t' := s.toks) (fun b o hb q => eb b o hb q) f0 f1 f3 f4 f5⟩
  self := fun A i s Q E st h => let ⟨⟨_, he⟩, _⟩ := st; wpAny_pyIter_enum he h
def iEnumT (K : PySem.W.Frag) (ta : TA) : TI := fun σ H R => ta σ H fun vs H1 => ∃ a xs, vs = [.ref a] ∧ SqT K H1 a xs ∧ R (IteT K a) H1
theorem pi_enumT {X : Cx} {e : Expr} {ta : TA} {p pos tpos : Pos} {elts : List Expr} {kk : Nat} (hg : Gl X "enumerate") (hm : X.mg "enumerate" = none) (ha : PA X [e] ta) (hs : starEach [e] X.env = [(false, eval e X.env)] := by rfl) :
    PI X (.Tuple elts kk tpos) (.Call (.Name "enumerate" p) [e] [] pos) (iEnumT X.K ta) := by
  refine ⟨fun pins s σ H R I h => ?_⟩
  refine Call_ (ld_blt I hg hm boot_enumerate (PyProof.Rows.callWith_type1 (thn (ha.run pos pins s σ H _ I h) fun us s1 ⟨vs, H1, I1, r1, q1⟩ => ?_) hs rfl))
  obtain ⟨a, xs, ex, hq, q⟩ := q1
  subst ex
  cases r1 with
  | cons r rr =>
    cases rr
    cases r
    obtain ⟨its, rv, p', hz⟩ := I1.tuple hq
    have hal : a < s1.heap.objs.size := by obtain ⟨o, ho, _⟩ := p'; exact Heap.lt_size ho
    refine call_enumerate_tup (tup_is p') fun h' he hit hsz hk => wpAny_pyIter_enum he ?_
    have I2 : Inv X pins σ H1 { s1 with heap := h' } := I1.kept (t' := s1.toks) hk
    refine ⟨s1.heap.objs.size + 1, [s1.heap.objs.size + 1, s1.heap.objs.size], _, _, H1, rfl, I2, turn_enumTu a (s1.heap.objs.size + 1) s1.heap.objs.size (Nat.ne_of_lt hal), ⟨⟨.none, he⟩, hit, Nat.succ_ne_self _, Nat.ne_of_gt (Nat.lt_succ_of_lt hal)⟩, fun b hb => ?_, q⟩
    have e' : b = s1.heap.objs.size + 1 ∨ b = s1.heap.objs.size := by simpa using hb
    have hle : s1.heap.objs.size ≤ b := by
      rcases e' with z | z
      · rw [z]; exact Nat.le_add_right _ _
      · rw [z]; exact Nat.le_refl _
    exact I1.fpOk hle (I1.hok.fresh hle)
theorem for_enumT {K : PySem.W.Frag} {a : Addr} {xs : List V} {g : TG} {tb : TS} {D : Ends} {σ : L2.St} {H : Hp} (Pv : Nat → L2.St → Hp → Prop) (h0 : Pv 0 σ H) (hl : ∀ i σ H, i ≤ xs.length → Pv i σ H → SqT K H a xs)
    (hs : ∀ (i : Nat) x (T : Addr) σ H, xs[i]? = some x → Pv i σ H → H T = none → g (.ref T) σ (upd H T (.tup [.int i, x])) fun σ2 H2 => tb { D with nx := Pv (i + 1), ct := Pv (i + 1), bk := D.nx } σ2 H2) (hd : ∀ σ H, Pv xs.length σ H → D.nx σ H) :
    ∃ W : Nat → Nat → L2.St → Hp → Prop, (∃ m, W 0 m σ H) ∧ ∀ i m σ H, W i m σ H →
      ((IteT K a).stop i H ∧ D.nx σ H) ∨ ((IteT K a).go i H ∧ ∃ N : L2.St → Hp → Prop, (∀ σ' H', N σ' H' → ∃ m', m' < m ∧ W (i + 1) m' σ' H') ∧ ∀ x H', (IteT K a).yld i H x H' → g x σ H' fun σ2 H2 => tb { D with nx := N, ct := N, bk := D.nx } σ2 H2) := by
  refine ⟨fun i m σ H => m = xs.length - i ∧ i ≤ xs.length ∧ Pv i σ H, ⟨xs.length, by simp, Nat.zero_le _, h0⟩, ?_⟩
  rintro i m σ H ⟨rfl, hi, p⟩
  have q := hl i σ H hi p
  by_cases hlt : i < xs.length
  · refine .inr ⟨⟨xs, xs[i], q, List.getElem?_eq_getElem hlt⟩, Pv (i + 1), fun σ' H' p' => ⟨xs.length - (i + 1), by omega, rfl, hlt, p'⟩, fun x H' y => ?_⟩
    obtain ⟨T, z, rfl, hT, rfl, hz⟩ := y
    exact hs i z T σ H (hz xs q) p hT
  · have e : i = xs.length := by omega
    subst e
    exact .inl ⟨⟨xs, q, rfl⟩, hd σ H p⟩
/-! ### loops over any iterable: the forms one uses -/
theorem lc_it {I : It} {n : Nat} {g : TG} {tt : TT} {te : TE} {vs : List Nat} {σ : L2.St} {H1 : Hp} {D : Addr} {Qd : Hp → Prop} (Pv : Nat → Hp → Prop) (h0 : Pv 0 (upd H1 D (.lst [])))
    (hgo : ∀ i H, i < n → Pv i H → I.go i H) (hst : ∀ H, Pv n H → I.stop n H)
    (hs : ∀ i x H H', i < n → Pv i H → I.yld i H x H' → g x (wipe σ vs) H' fun σ2 H2 => wipe σ2 vs = wipe σ vs ∧ tt σ2 H2 fun b H3 =>
      if b = true then te σ2 H3 fun y H4 => ∃ acc, H4 D = some (.lst acc) ∧ acc.length < sizeLine ∧ Pv (i + 1) (upd H4 D (.lst (acc ++ [y]))) else Pv (i + 1) H3) (hd : ∀ H, Pv n H → Qd H) :
    ∃ W : Nat → Nat → Hp → Prop, (∃ m, W 0 m (upd H1 D (.lst []))) ∧ ∀ i m H, W i m H →
      (I.stop i H ∧ Qd H) ∨ (I.go i H ∧ ∃ Nx : Hp → Prop, (∀ H', Nx H' → ∃ m', m' < m ∧ W (i + 1) m' H') ∧ ∀ x H', I.yld i H x H' → g x (wipe σ vs) H' fun σ2 H2 => wipe σ2 vs = wipe σ vs ∧ tt σ2 H2 fun b H3 =>
        if b = true then te σ2 H3 fun y H4 => ∃ acc, H4 D = some (.lst acc) ∧ acc.length < sizeLine ∧ Nx (upd H4 D (.lst (acc ++ [y]))) else Nx H3) := by
  refine ⟨fun i m H => m = n - i ∧ i ≤ n ∧ Pv i H, ⟨n, by simp, Nat.zero_le _, h0⟩, ?_⟩
  rintro i m H ⟨rfl, hi, p⟩
  by_cases hlt : i < n
  · exact .inr ⟨hgo i H hlt p, Pv (i + 1), fun H' p' => ⟨n - (i + 1), by omega, rfl, hlt, p'⟩, fun x H' y => hs i x H H' hlt p y⟩
  · have e : i = n := by omega
    subst e
    exact .inl ⟨hst H p, hd H p⟩
theorem for_it {I : It} {n : Nat} {g : TG} {tb : TS} {D : Ends} {σ : L2.St} {H : Hp} (Pv : Nat → L2.St → Hp → Prop) (h0 : Pv 0 σ H)
    (hgo : ∀ i σ H, i < n → Pv i σ H → I.go i H) (hst : ∀ σ H, Pv n σ H → I.stop n H)
    (hs : ∀ i x σ H H', i < n → Pv i σ H → I.yld i H x H' → g x σ H' fun σ2 H2 => tb { D with nx := Pv (i + 1), ct := Pv (i + 1), bk := D.nx } σ2 H2) (hd : ∀ σ H, Pv n σ H → D.nx σ H) :
    ∃ W : Nat → Nat → L2.St → Hp → Prop, (∃ m, W 0 m σ H) ∧ ∀ i m σ H, W i m σ H →
      (I.stop i H ∧ D.nx σ H) ∨ (I.go i H ∧ ∃ N : L2.St → Hp → Prop, (∀ σ' H', N σ' H' → ∃ m', m' < m ∧ W (i + 1) m' σ' H') ∧ ∀ x H', I.yld i H x H' → g x σ H' fun σ2 H2 => tb { D with nx := N, ct := N, bk := D.nx } σ2 H2) := by
  refine ⟨fun i m σ H => m = n - i ∧ i ≤ n ∧ Pv i σ H, ⟨n, by simp, Nat.zero_le _, h0⟩, ?_⟩
  rintro i m σ H ⟨rfl, hi, p⟩
  by_cases hlt : i < n
  · exact .inr ⟨hgo i σ H hlt p, Pv (i + 1), fun σ' H' p' => ⟨n - (i + 1), by omega, rfl, hlt, p'⟩, fun x H' y => hs i x σ H H' hlt p y⟩
  · have e : i = n := by omega
    subst e
    exact .inl ⟨hst σ H p, hd σ H p⟩
/-- [.. for i, x in enumerate(xs)] -/
theorem lc_enum {K : PySem.W.Frag} {a : Addr} {xs : List V} {g : TG} {tt : TT} {te : TE} {vs : List Nat} {σ : L2.St} {H1 : Hp} {D : Addr} {Qd : Hp → Prop} (Pv : Nat → Hp → Prop) (h0 : Pv 0 (upd H1 D (.lst []))) (hl : ∀ i H, i ≤ xs.length → Pv i H → SqL K H a xs)
    (hs : ∀ (i : Nat) x (T : Addr) H, xs[i]? = some x → Pv i H → H T = none → g (.ref T) (wipe σ vs) (upd H T (.tup [.int i, x])) fun σ2 H2 => wipe σ2 vs = wipe σ vs ∧ tt σ2 H2 fun b H3 =>
      if b = true then te σ2 H3 fun y H4 => ∃ acc, H4 D = some (.lst acc) ∧ acc.length < sizeLine ∧ Pv (i + 1) (upd H4 D (.lst (acc ++ [y]))) else Pv (i + 1) H3) (hd : ∀ H, Pv xs.length H → Qd H) :
    ∃ W : Nat → Nat → Hp → Prop, (∃ m, W 0 m (upd H1 D (.lst []))) ∧ ∀ i m H, W i m H →
      ((Ite K a).stop i H ∧ Qd H) ∨ ((Ite K a).go i H ∧ ∃ Nx : Hp → Prop, (∀ H', Nx H' → ∃ m', m' < m ∧ W (i + 1) m' H') ∧ ∀ x H', (Ite K a).yld i H x H' → g x (wipe σ vs) H' fun σ2 H2 => wipe σ2 vs = wipe σ vs ∧ tt σ2 H2 fun b H3 =>
        if b = true then te σ2 H3 fun y H4 => ∃ acc, H4 D = some (.lst acc) ∧ acc.length < sizeLine ∧ Nx (upd H4 D (.lst (acc ++ [y]))) else Nx H3) := by
  refine lc_it (I := Ite K a) (n := xs.length) Pv h0 (fun i H hi p => ⟨xs, xs[i], hl i H (Nat.le_of_lt hi) p, List.getElem?_eq_getElem hi⟩) (fun H p => ⟨xs, hl _ H (Nat.le_refl _) p, Nat.le_refl _⟩) ?_ hd
  rintro i x H H' hi p ⟨T, z, rfl, hT, rfl, hz⟩
  exact hs i z T H (hz xs (hl i H (Nat.le_of_lt hi) p)) p hT
theorem for_enum' {K : PySem.W.Frag} {a : Addr} {xs : List V} {g : TG} {tb : TS} {D : Ends} {σ : L2.St} {H : Hp} (Pv : Nat → L2.St → Hp → Prop) (h0 : Pv 0 σ H) (hl : ∀ i σ H, i ≤ xs.length → Pv i σ H → SqL K H a xs)
    (hs : ∀ (i : Nat) x (T : Addr) σ H, xs[i]? = some x → Pv i σ H → H T = none → g (.ref T) σ (upd H T (.tup [.int i, x])) fun σ2 H2 => tb { D with nx := Pv (i + 1), ct := Pv (i + 1), bk := D.nx } σ2 H2) (hd : ∀ σ H, Pv xs.length σ H → D.nx σ H) :
    ∃ W : Nat → Nat → L2.St → Hp → Prop, (∃ m, W 0 m σ H) ∧ ∀ i m σ H, W i m σ H →
      ((Ite K a).stop i H ∧ D.nx σ H) ∨ ((Ite K a).go i H ∧ ∃ N : L2.St → Hp → Prop, (∀ σ' H', N σ' H' → ∃ m', m' < m ∧ W (i + 1) m' σ' H') ∧ ∀ x H', (Ite K a).yld i H x H' → g x σ H' fun σ2 H2 => tb { D with nx := N, ct := N, bk := D.nx } σ2 H2) := by
  refine for_it (I := Ite K a) (n := xs.length) Pv h0 (fun i σ H hi p => ⟨xs, xs[i], hl i σ H (Nat.le_of_lt hi) p, List.getElem?_eq_getElem hi⟩) (fun σ H p => ⟨xs, hl _ σ H (Nat.le_refl _) p, Nat.le_refl _⟩) ?_ hd
  rintro i x σ H H' hi p ⟨T, z, rfl, hT, rfl, hz⟩
  exact hs i z T σ H (hz xs (hl i σ H (Nat.le_of_lt hi) p)) p hT
/-- xs[i] of a list, as a value -/
theorem get_listI {X : Cx} : PGet X (rIxL X.K) := by
  intro pins s σ H o i ov iv Q I ro ri h
  obtain ⟨p, xs, k, z, rfl, rfl, hq, he, q⟩ := h
  cases ro
  obtain ⟨t, rfl⟩ := ri
  obtain ⟨its, r, pl, hz⟩ := I.list hq
  obtain ⟨j, h1, h2, h3, h4, h5⟩ := atI_get he
  obtain ⟨w, ew, rw'⟩ := r.get h2
  have hl := r.length
  have hn := line63
  have fin : EP X pins σ Q w s := ⟨z, H, I, rw', q⟩
  by_cases h0 : 0 ≤ k
  · have hj : k.toNat = j := by
      rw [seqIndex_of h0 h5] at h1
      exact Option.some.inj h1
    exact wpAny_getItem_list pl.isList h0 (by omega) (by rw [hj]; simpa using ew) fin
  · have hj : (k + (its.toArray.size : Int)).toNat = j := by
      rw [seqIndex_neg (by omega) h4] at h1
      rw [List.size_toArray, ← hl]
      exact Option.some.inj h1
    exact wpAny_getItem_list_neg pl.isList (by omega) (by rw [List.size_toArray] <;> omega) (by omega) (by rw [hj]; simpa using ew) fin
end Toy
/-! ### list(zip(xs, ys)), two lists -/
namespace PySem
theorem zip_no_len' : typeLookup (.type "zip") "__len__" = pure none := by rw [typeLookup_type, builtinLookup_eq_fast]; kernel_rfl
theorem zip_no_hint' : typeLookup (.type "zip") "__length_hint__" = pure none := by rw [typeLookup_type, builtinLookup_eq_fast]; kernel_rfl
end PySem
namespace Toy
open PySem PySem.Spec PyProof.Rows L2
open Sem (wp)
def zst (z TI TO i1 i2 l1 l2 S : Addr) (i : Nat) (h : Heap) : Prop := IsPair h TI (.ref i1) (.ref i2) ∧ h.IsListIter i1 l1 i ∧ h.IsListIter i2 l2 i ∧ (∃ oO, h.get? TO = some oO) ∧
  ((IsZip h z TI TO .none ∧ ∃ a b, IsPair h TO a b) ∨ ∃ T f oT, IsZipHeld h z TI TO T f ∧ h.get? T = some oT ∧ T ≠ z ∧ T ≠ i1 ∧ T ≠ i2 ∧ T ≠ S)
theorem zst.at {z TI TO i1 i2 l1 l2 S : Addr} {i : Nat} {h h' : Heap} (n : S ≠ z ∧ S ≠ TI ∧ S ≠ TO ∧ S ≠ i1 ∧ S ≠ i2) (k : ∀ b o, b ≠ S → h.get? b = some o → h'.get? b = some o) (st : zst z TI TO i1 i2 l1 l2 S i h) : zst z TI TO i1 i2 l1 l2 S i h' := by
  obtain ⟨nz, nTI, nTO, n1, n2⟩ := n
  obtain ⟨hTI, h1, h2, ⟨oO, hO⟩, hz⟩ := st
  refine ⟨k _ _ (Ne.symm nTI) hTI, h1.at fun o e => k _ o (Ne.symm n1) e, h2.at fun o e => k _ o (Ne.symm n2) e, ⟨oO, k _ _ (Ne.symm nTO) hO⟩, ?_⟩
  rcases hz with ⟨hz, a, b, hTO⟩ | ⟨T, f, oT, hz, hT, r1, r2, r3, r4⟩
  · exact .inl ⟨k _ _ (Ne.symm nz) hz, a, b, k _ _ (Ne.symm nTO) hTO⟩
  · exact .inr ⟨T, f, oT, k _ _ (Ne.symm nz) hz, k _ _ r4 hT, r1, r2, r3, r4⟩
def PairsAt (H : Hp) (ts : List Addr) (xs ys : List V) : Prop := ∀ (j : Nat) (t : Addr) (x y : V), ts[j]? = some t → xs[j]? = some x → ys[j]? = some y → H t = some (.tup [x, y])
theorem ext_zip {X : Cx} {pins : List (Addr × Obj)} {σ : L2.St} {z TI TO i1 i2 l1 l2 S : Addr} {A : Around} {R : Result → Shared → Prop} (hA : A.in1.handled = none) (D : ZipApart z TI TO i1 i2 l1 l2) {xs ys : List V} (hlen : xs.length = ys.length) (h1000 : xs.length ≤ 1000)
    (nS : S ≠ z ∧ S ≠ TI ∧ S ≠ TO ∧ S ≠ i1 ∧ S ≠ i2) (res : Value) (H0 : Hp) (hq : ∀ H', But S H0 H' → SqL X.K H' l1 xs ∧ SqL X.K H' l2 ys) :
    ∀ (k i : Nat) (s : Shared) (H : Hp) (ts : List Addr), xs.length - i = k → i ≤ xs.length → Inv X pins σ H s → (∀ b ∈ [z, TO, i1, i2], FpOk X pins H b) → zst z TI TO i1 i2 l1 l2 S i s.heap → But S H0 H →
    H S = some (.lst (ts.map V.ref)) → ts.length = i → PairsAt H ts xs ys →
    (∀ s' H' ts', Inv X pins σ H' s' → But S H0 H' → H' S = some (.lst (ts'.map V.ref)) → ts'.length = xs.length → PairsAt H' ts' xs ys → R (.ok (.ret res)) s') →
    codeAny (model X.prog X.w) A (.builtin "list.extend.loop" ⟨[.ref S, .ref z, res], []⟩) R s := by
  have hline : 1000 ≤ sizeLine := small (Nat.le_refl _)
  intro k
  induction k with
  | zero =>
    intro i s H ts hk hi I hf st hB hS hts hc hR
    have hin : i = xs.length := by omega
    obtain ⟨hTI, h1, h2, _, hz⟩ := st
    obtain ⟨q1, q2⟩ := hq H hB
    obtain ⟨its, rv, p1, _⟩ := I.list q1
    obtain ⟨its2, rv2, p2, _⟩ := I.list q2
    have l1' := rv.length
    have e1 : its.toArray[i]? = none := by simp; omega
    refine codeAny_builtin F.entry_extend_loop ?_
    rw [Around.under_plainId F.plain_extend_loop _]
    show wpAny _ A.in1 (pyNext (.ref z) >>= _) _ _ s
    refine wpAny_bind ?_
    have fin : ∀ h', (∀ c o, c ≠ z → c ≠ TO → c ≠ i1 → c ≠ i2 → s.heap.get? c = some o → h'.get? c = some o) → R (.ok (.ret res)) { s with heap := h' } := fun h' hk =>
      hR _ H ts (I.turnedL (t' := s.toks) (ch := [z, TO, i1, i2]) (fun c o hb q => hk c o (fun q' => hb (by simp [q'])) (fun q' => hb (by simp [q'])) (fun q' => hb (by simp [q'])) (fun q' => hb (by simp [q'])) q) hf) hB hS (by omega) hc
    rcases hz with ⟨hz, a, b, hTO⟩ | ⟨T, f, oT, hz, hT, r1, r2, r3, r4⟩
    · exact wpAny_pyNext_zip_end hA D hz hTI hTO h1 h2 p1.isList p2.isList (.inl e1) fun h' hk => wpAny_pure (fin h' hk)
    · exact wpAny_pyNext_zip_end_held hA D hz hT hTI h1 h2 p1.isList p2.isList (.inl e1) fun h' hk => wpAny_pure (fin h' fun c o c1 c2 c3 c4 e => hk c o c1 c3 c4 e)
  | succ k ih =>
    intro i s H ts hk hi I hf st hB hS hts hc hR
    have hlt : i < xs.length := by omega
    have hlt2 : i < ys.length := by omega
    obtain ⟨hTI, h1, h2, ⟨oO, hO⟩, hz⟩ := st
    obtain ⟨q1, q2⟩ := hq H hB
    obtain ⟨its, rv, p1, _⟩ := I.list q1
    obtain ⟨its2, rv2, p2, _⟩ := I.list q2
    obtain ⟨u, hu, ru⟩ := rv.get (List.getElem?_eq_getElem hlt)
    obtain ⟨u2, hu2, ru2⟩ := rv2.get (List.getElem?_eq_getElem hlt2)
    have lt : ∀ {c o}, s.heap.get? c = some o → s.heap.objs.size ≠ c := fun e => Nat.ne_of_gt (Heap.lt_size e)
    have n1 : s.heap.objs.size ≠ i1 := let ⟨_, e, _⟩ := h1; lt e
    have n2 : s.heap.objs.size ≠ i2 := let ⟨_, e, _⟩ := h2; lt e
    have nO : s.heap.objs.size ≠ TO := lt hO
    have hfr : H s.heap.objs.size = none := I.hok.fresh (Nat.le_refl _)
    have nNS : S ≠ s.heap.objs.size := ne_of_none hS hfr
    refine codeAny_builtin F.entry_extend_loop ?_
    rw [Around.under_plainId F.plain_extend_loop _]
    show wpAny _ A.in1 (pyNext (.ref z) >>= _) _ _ s
    refine wpAny_bind ?_
    have nz : s.heap.objs.size ≠ z := by
      rcases hz with ⟨hz, _⟩ | ⟨_, _, _, hz, _⟩
      · exact lt hz
      · exact lt hz
    -- one step on
    have on : ∀ h', IsPair h' s.heap.objs.size u u2 → (∀ c o, c ≠ z → c ≠ TO → c ≠ i1 → c ≠ i2 → s.heap.get? c = some o → h'.get? c = some o) → zst z TI TO i1 i2 l1 l2 S (i + 1) h' →
        wpAny (model X.prog X.w) A.in1 (updateSeq S (·.push (.ref s.heap.objs.size)) >>= fun _ => again (.builtin "list.extend.loop" ⟨[.ref S, .ref z, res], []⟩))
          (fun fin s' => match fin with | .done f => R (.ok f) s' | .again c' => c'.quiet = true ∧ codeAny (model X.prog X.w) A c' R s') (fun e s' => R (.error e) s') { s with heap := h' } := by
      intro h' a5 hk' st'
      have new : ObjOk X.prog X.w (upd H s.heap.objs.size (.tup [xs[i], ys[i]])) h' s.heap.objs.size (.tup [xs[i], ys[i]]) :=
        ⟨by show 2 ≤ sizeLine; decide, [u, u2], .cons ru (.cons ru2 .nil), ⟨_, a5, rfl, _, rfl⟩⟩
      have I1 : Inv X pins σ (upd H s.heap.objs.size (.tup [xs[i], ys[i]])) { s with heap := h' } :=
        I.turnedNew (t' := s.toks) (ch := [z, TO, i1, i2]) (fun c o hb q => hk' c o (fun q' => hb (by simp [q'])) (fun q' => hb (by simp [q'])) (fun q' => hb (by simp [q'])) (fun q' => hb (by simp [q'])) q) hf (Nat.le_refl _) new
      have hS1 : (upd H s.heap.objs.size (.tup [xs[i], ys[i]])) S = some (.lst (ts.map V.ref)) := by rw [upd_ne nNS]; exact hS
      obtain ⟨hz1, its3, n3, rv3, hl3, hS3⟩ := I1.lstM hS1
      have hl3' : its3.length = i := by rw [← hl3, List.length_map, hts]
      have I2 := I1.lset (f := (·.push (.ref s.heap.objs.size))) (ys := (ts ++ [s.heap.objs.size]).map V.ref) (its' := its3 ++ [.ref s.heap.objs.size]) (t' := s.toks) hS1 hS3 (by simp) (by rw [List.map_append]; exact rv3.append (.cons rfl .nil)) (by rw [List.length_map, List.length_append, hts]; show i + 1 ≤ sizeLine; omega)
      refine wpAny_bind ?_
      refine wpAny_updateSeq hS3 rfl (wpAny_pure ⟨plainId_quiet F.plain_extend_loop _, ih (i + 1) _ _ (ts ++ [s.heap.objs.size]) (by omega) hlt I2 (fun b hb => ?_) (st'.at nS fun b o hb e => (Heap.get?_update_other _ _ (Ne.symm hb)).trans e) ?_ upd_same (by rw [List.length_append, hts] <;> rfl) ?_ hR⟩) (by rw [List.size_toArray]; omega) (by simp; omega)
      · have h0 := hf b hb
        refine ⟨?_, h0.2⟩
        have nb : b ≠ s.heap.objs.size := by
          simp only [List.mem_cons, List.not_mem_nil, or_false] at hb
          rcases hb with rfl | rfl | rfl | rfl
          · exact Ne.symm nz
          · exact Ne.symm nO
          · exact Ne.symm n1
          · exact Ne.symm n2
        have nb2 : b ≠ S := by
          obtain ⟨m1, m2, m3, m4, m5⟩ := nS
          simp only [List.mem_cons, List.not_mem_nil, or_false] at hb
          rcases hb with rfl | rfl | rfl | rfl
          · exact Ne.symm m1
          · exact Ne.symm m3
          · exact Ne.symm m4
          · exact Ne.symm m5
        rw [upd_ne nb2, upd_ne nb]
        exact h0.1
      · exact fun c o hc e => by
          have e' := hB c o hc e
          rw [upd_ne hc, upd_ne (ne_of_none e' hfr)]
          exact e'
      · intro j t x y hj hx hy
        by_cases c : j < i
        · rw [List.getElem?_append_left (by omega)] at hj
          have h5 := hc j t x y hj hx hy
          have nt : t ≠ S := ne_of h5 hS (by intro w; cases w)
          rw [upd_ne nt, upd_ne (ne_of_none h5 hfr)]
          exact h5
        · have hj2 := (List.getElem?_eq_some_iff.mp hj).1
          rw [List.length_append] at hj2
          have hj3 : j < ts.length + 1 := hj2
          have : j = i := by omega
          subst this
          rw [List.getElem?_append_right (by omega), hts, Nat.sub_self] at hj
          cases (Option.some.inj hj)
          rw [List.getElem?_eq_getElem hlt] at hx
          rw [List.getElem?_eq_getElem hlt2] at hy
          cases (Option.some.inj hx)
          cases (Option.some.inj hy)
          rw [upd_ne (Ne.symm nNS), upd_same]
    rcases hz with ⟨hz, a, b, hTO⟩ | ⟨T, f, oT, hz, hT, r1, r2, r3, r4⟩
    · refine wpAny_pyNext_zip_item D hz hTI hTO h1 h2 p1.isList p2.isList (x := u) (y := u2) (by simpa using hu) (by simpa using hu2) fun h' a1 a2 a3 a4 a5 a6 hk' => ?_
      exact on h' a5 hk' ⟨hk' _ _ D.TIz D.TITO D.TIi1 D.TIi2 hTI, a3, a4, ⟨_, a2⟩, .inr ⟨s.heap.objs.size, false, _, a1, a5, nz, n1, n2, Ne.symm nNS⟩⟩
    · refine wpAny_pyNext_zip_item_held D hz hT hTI h1 h2 p1.isList p2.isList (x := u) (y := u2) (by simpa using hu) (by simpa using hu2) fun h' a1 a3 a4 a5 a6 hk' => ?_
      exact on h' a5 (fun c o c1 c2 c3 c4 e => hk' c o c1 c3 c4 e) ⟨hk' _ _ D.TIz D.TIi1 D.TIi2 hTI, a3, a4, ⟨oO, hk' _ _ D.TOz D.TOi1 D.TOi2 hO⟩, .inr ⟨T, true, oT, a1, hk' _ _ r1 r2 r3 hT, r1, r2, r3, r4⟩⟩
theorem list_of_zip {X : Cx} {pins : List (Addr × Obj)} {σ : L2.St} {H : Hp} {s : Shared} (I : Inv X pins σ H s) (hcalm : X.calm = true) {z TI TO i1 i2 l1 l2 : Addr} (D : ZipApart z TI TO i1 i2 l1 l2) {xs ys : List V} (hlen : xs.length = ys.length) (h1000 : xs.length ≤ 1000)
    (hz : IsZip s.heap z TI TO .none) (hTI : IsPair s.heap TI (.ref i1) (.ref i2)) (hTO : ∃ a b, IsPair s.heap TO a b) (h1 : s.heap.IsListIter i1 l1 0) (h2 : s.heap.IsListIter i2 l2 0)
    (hf : ∀ b ∈ [z, TO, i1, i2], FpOk X pins H b) (hq1 : SqL X.K H l1 xs) (hq2 : SqL X.K H l2 ys) {Q : VK}
    (q : ∀ S ts H2, Same H H2 → H S = none → H2 S = some (.lst (ts.map V.ref)) → ts.length = xs.length → PairsAt H2 ts xs ys → Q (.ref S) H2) :
    wpAny (model X.prog X.w) X.A (call (.type "list") [.ref z]) (EP X pins σ Q) X.xe s := by
  have hh : X.A.in1.in1.handled = none := show X.A.handled = none from I.ok.hd hcalm
  obtain ⟨a0, b0, hTO⟩ := hTO
  have nz : s.heap.objs.size ≠ z := Nat.ne_of_gt (Heap.lt_size hz)
  have nTI : s.heap.objs.size ≠ TI := Nat.ne_of_gt (Heap.lt_size hTI)
  have nTO : s.heap.objs.size ≠ TO := Nat.ne_of_gt (Heap.lt_size hTO)
  have n1 : s.heap.objs.size ≠ i1 := let ⟨_, e, _⟩ := h1; Nat.ne_of_gt (Heap.lt_size e)
  have n2 : s.heap.objs.size ≠ i2 := let ⟨_, e, _⟩ := h2; Nat.ne_of_gt (Heap.lt_size e)
  have hfr : H s.heap.objs.size = none := I.hok.fresh (Nat.le_refl _)
  refine callType_codes (Q₁ := fun obj s₁ => obj = .ref s.heap.objs.size ∧ s₁ = { s with heap := s.heap.push { cls := .type "list", data := .seq #[] } }) F.called_list (F.typeCall_list_1 _) F.entry_list_init
    (code_list_new _ ⟨rfl, rfl⟩) fun obj s₁ h₁ => ?_
  obtain ⟨rfl, rfl⟩ := h₁
  have hS : (s.heap.push { cls := .type "list", data := .seq #[] }).get? s.heap.objs.size = some { cls := .type "list", data := .seq #[] } := Heap.get?_push_size _ rfl
  refine ⟨⟨_, hS, rfl⟩, F.args_list_init_2 _ _, ?_⟩
  show wpAny _ X.A.in1.in1 (do let old ← Builtin.List.listItems (.ref s.heap.objs.size); Builtin.List.listUpdate (.ref s.heap.objs.size) (fun _ => #[]); letGo old.toList.reverse; Builtin.List.listExtendWith (.ref s.heap.objs.size) (.ref z) .none) _ _ _
  refine wpAny_bind ?_
  unfold Builtin.List.listItems
  refine wpAny_bind (wpAny_seqItems hS rfl (wpAny_pure ?_))
  show wpAny _ X.A.in1.in1 (updateSeq s.heap.objs.size (fun _ => #[]) >>= fun _ => letGo (#[] : Array Value).toList.reverse >>= fun _ => Builtin.List.listExtendWith (.ref s.heap.objs.size) (.ref z) .none) _ _ _
  refine wpAny_bind (wpAny_updateSeq hS rfl ?_)
  have hS₂ := Heap.get?_update_self (Obj.mapSeq (fun _ => (#[] : Array Value))) hS rfl
  have oth : ∀ b o, b ≠ s.heap.objs.size → s.heap.get? b = some o → ((s.heap.push { cls := .type "list", data := .seq #[] }).update s.heap.objs.size (Obj.mapSeq (fun _ => (#[] : Array Value)))).get? b = some o :=
    fun b o hb e => (Heap.get?_update_other _ _ (Ne.symm hb)).trans (Heap.get?_push_of_some _ e)
  refine wpAny_bind (wpAny_letGo ?_)
  generalize hh2 : (s.heap.push { cls := .type "list", data := .seq #[] }).update s.heap.objs.size (Obj.mapSeq (fun _ => (#[] : Array Value))) = hp2 at hS₂ oth
  unfold Builtin.List.listExtendWith
  refine wpAny_bind (wpAny_typeOf (T := "zip") ⟨_, oth _ _ (Ne.symm nz) hz, rfl⟩ ?_)
  have g1 : Builtin.List.listSameRef (.ref s.heap.objs.size) (.ref z) = false := by simp [Builtin.List.listSameRef, nz]
  have g2 : (Value.type "zip" == Value.type "list") = false := by decide
  have g3 : (Value.type "zip" == Value.type "tuple") = false := by decide
  simp only [g1, g2, g3, Bool.or_false, Bool.false_eq_true, if_false]
  refine wpAny_bind (wpAny_pyIter_zip (oth _ _ (Ne.symm nz) hz) ?_)
  refine wpAny_bind (wpAny_holding ?_)
  unfold Builtin.List.listLengthHint
  refine wpAny_bind (wpAny_specialOf (T := "zip") ⟨_, oth _ _ (Ne.symm nz) hz, rfl⟩ zip_no_len' ?_)
  show wpAny _ X.A.in1.in1 (specialOf (Value.ref z) (Str.ofString "__length_hint__") >>= _) _ _ _
  refine wpAny_bind (wpAny_specialOf (T := "zip") ⟨_, oth _ _ (Ne.symm nz) hz, rfl⟩ zip_no_hint' ?_)
  refine wpAny_pure ?_
  show wpAny _ X.A.in1.in1 (rule "list.extend.makes-room" >>= fun _ => Builtin.List.listTouch (.ref s.heap.objs.size) >>= fun _ =>
    again (.builtin "list.extend.loop" ⟨[.ref s.heap.objs.size, .ref z, .none], []⟩)) _ _ _
  refine wpAny_bind (wpAny_rule ?_)
  refine wpAny_bind ?_
  show wpAny _ X.A.in1.in1 (updateSeq s.heap.objs.size (·.push .none) >>= fun _ => updateSeq s.heap.objs.size (·.pop)) _ _ _
  refine wpAny_bind (wpAny_updateSeq hS₂ rfl ?_)
  have hS₃ := Heap.get?_update_self (Obj.mapSeq (·.push Value.none)) hS₂ rfl
  refine wpAny_updateSeq (hz := by seq_fits) hS₃ rfl ?_
  have hS₄ := Heap.get?_update_self (Obj.mapSeq (·.pop)) hS₃ rfl
  have oth2 : ∀ b o, b ≠ s.heap.objs.size → s.heap.get? b = some o → ((hp2.update s.heap.objs.size (Obj.mapSeq (·.push Value.none))).update s.heap.objs.size (Obj.mapSeq (·.pop))).get? b = some o :=
    fun b o hb e => (Heap.get?_update_other _ _ (Ne.symm hb)).trans ((Heap.get?_update_other _ _ (Ne.symm hb)).trans (oth b o hb e))
  have new : ObjOk X.prog X.w (upd H s.heap.objs.size (.lst [])) ((hp2.update s.heap.objs.size (Obj.mapSeq (·.push Value.none))).update s.heap.objs.size (Obj.mapSeq (·.pop))) s.heap.objs.size (.lst []) :=
    ⟨Nat.zero_le _, [], _, .nil, hS₄⟩
  have I1 : Inv X pins σ (upd H s.heap.objs.size (.lst [])) { s with heap := (hp2.update s.heap.objs.size (Obj.mapSeq (·.push Value.none))).update s.heap.objs.size (Obj.mapSeq (·.pop)) } :=
    I.laid (t' := s.toks) (fun b u e => oth2 b u (Nat.ne_of_lt (Heap.lt_size e)) e) (Nat.le_refl _) new
  have S1 := same_new hfr (.lst [])
  refine wpAny_pure ⟨plainId_quiet F.plain_extend_loop _, ext_zip (A := X.A.in1) (R := wants (fun r s₂ => r = Value.none ∧ EP X pins σ Q (Value.ref s.heap.objs.size) s₂) X.xe) hh D hlen h1000 ⟨nz, nTI, nTO, n1, n2⟩ .none (upd H s.heap.objs.size (.lst [])) (fun H' B' => ?_) (xs.length - 0) 0 _ _ [] rfl (Nat.zero_le _) I1 (fun b hb => ?_) ?_ But.refl upd_same rfl (fun j t x y hj => by simp at hj) fun s' H' ts' I' B' hS' hl' hp' => ⟨rfl, .ref s.heap.objs.size, H', I', rfl, q _ ts' H' (but_same hfr S1 B') hfr hS' hl' hp'⟩⟩
  · have S2 := but_same hfr S1 B'
    exact ⟨S2.seq hq1, S2.seq hq2⟩
  · have h0 := hf b hb
    refine ⟨?_, h0.2⟩
    have nb2 : b ≠ s.heap.objs.size := by
      simp only [List.mem_cons, List.not_mem_nil, or_false] at hb
      rcases hb with rfl | rfl | rfl | rfl
      · exact Ne.symm nz
      · exact Ne.symm nTO
      · exact Ne.symm n1
      · exact Ne.symm n2
    rw [upd_ne nb2]
    exact h0.1
  · exact ⟨oth2 _ _ (Ne.symm nTI) hTI, h1.at fun o e => oth2 _ o (Ne.symm n1) e, h2.at fun o e => oth2 _ o (Ne.symm n2) e, ⟨_, oth2 _ _ (Ne.symm nTO) hTO⟩, .inl ⟨oth2 _ _ (Ne.symm nz) hz, a0, b0, oth2 _ _ (Ne.symm nTO) hTO⟩⟩
def tListZip (K : PySem.W.Frag) (ta : TA) : TE := fun σ H Q => ta σ H fun vs H1 => ∃ a b xs ys, vs = [.ref a, .ref b] ∧ SqL K H1 a xs ∧ SqL K H1 b ys ∧ xs.length = ys.length ∧ xs.length ≤ 1000 ∧
  ∀ S ts H2, Same H1 H2 → H1 S = none → H2 S = some (.lst (ts.map V.ref)) → ts.length = xs.length → PairsAt H2 ts xs ys → Q (.ref S) H2
theorem pe_listZip {X : Cx} {e e2 : Expr} {ta : TA} {p p2 pos pos2 : Pos} (hc : X.calm = true) (hg0 : Gl X "list") (hm0 : X.mg "list" = none) (hg : Gl X "zip") (hm : X.mg "zip" = none) (ha : PA X [e, e2] ta)
    (hs : starEach [e, e2] X.env = (false, eval e X.env) :: starEach [e2] X.env := by rfl) (hpl : (backTo pos2 (starEach [e2] X.env)).any (·.1) = false := by rfl)
    (na : starEach [.Call (.Name "zip" p2) [e, e2] [] pos2] X.env = (false, eval (.Call (.Name "zip" p2) [e, e2] [] pos2) X.env) :: starEach [] X.env := by rfl) :
    PE X (.Call (.Name "list" p) [.Call (.Name "zip" p2) [e, e2] [] pos2] [] pos) (tListZip X.K ta) := by
  refine ⟨fun pins s σ H Q I h => ?_⟩
  refine Call_ (ld_blt I hg0 hm0 boot_list (PyProof.Rows.callWith_type1 (args_cons ?_ na) na))
  refine Call_ (ld_blt I hg hm PyProof.Rows.boot_zip (PyProof.Rows.callWith_type1 (thn (ha.run pos2 pins s σ H _ I h) fun us s1 ⟨vs, H1, I1, r1, q1⟩ => ?_) hs hpl))
  obtain ⟨a, b, xs, ys, ex, hqx, hqy, hl, h1000, q⟩ := q1
  subst ex
  cases r1 with
  | cons r rr =>
    cases rr with
    | cons r' rr =>
      cases rr
      cases r
      cases r'
      obtain ⟨its, rv, p1, _⟩ := I1.list hqx
      obtain ⟨its2, rv2, p2, _⟩ := I1.list hqy
      have la : a < s1.heap.objs.size := p1.lt
      have lb : b < s1.heap.objs.size := p2.lt
      refine call_zip_2 p1.isList p2.isList fun h' hz hTI hTO h1 h2 hsz hk => args_nil ?_
      have I2 : Inv X pins σ H1 { s1 with heap := h' } := I1.kept (t' := s1.toks) hk
      refine list_of_zip (s := { s1 with heap := h' }) I2 hc (PySem.W.ktu_apart s1.heap.objs.size a b la lb) hl h1000 hz hTI ⟨_, _, hTO⟩ h1 h2 (fun c hcm => ?_) hqx hqy q
      have e' : c = s1.heap.objs.size + 4 ∨ c = s1.heap.objs.size + 3 ∨ c = s1.heap.objs.size ∨ c = s1.heap.objs.size + 1 := by simpa using hcm
      have hle : s1.heap.objs.size ≤ c := by
        rcases e' with z | z | z | z
        · rw [z]; exact Nat.le_add_right _ _
        · rw [z]; exact Nat.le_add_right _ _
        · rw [z]; exact Nat.le_refl _
        · rw [z]; exact Nat.le_add_right _ _
      exact I1.fpOk hle (I1.hok.fresh hle)
end Toy
/-! ### sorted(t) of a tuple -/
namespace SrtO
open PySem PyProof.Rows Srt
section
variable {prog : Program} {w : World} {A : Around} {E : Value → Shared → Prop} {s : Shared}
theorem collect_tupT {l : Addr} {vs : List Value} {Q : List Value → Shared → Prop} (hl : s.heap.IsTuple l vs.toArray)
    (h : Q vs { s with heap := (s.heap.push (seqObj "list" #[] 0)).update s.heap.objs.size (Obj.mapSeq (· ++ vs.toArray)) }) (hsz : vs.length ≤ sizeLine := by size_fits) :
    wpAny (model prog w) A (collect (.ref l)) Q E s := by
  obtain ⟨o, ho, hc, n, hd⟩ := id hl
  unfold collect
  refine wpAny_bind (wpAny_runValue (codeAny_builtin entry_proto_collect' ?_))
  show wpAny _ _ (do again (.builtin "list.__iadd__" ⟨[← newList [], .ref l], []⟩)) _ _ s
  refine wpAny_bind (wpAny_newList (wpAny_pure ⟨Code.quiet_builtin _ (by decide +kernel), codeAny_builtin entry_list_iadd' ?_⟩))
  show wpAny _ _ (Builtin.List.listExtendWith (.ref s.heap.objs.size) (.ref l) (.ref s.heap.objs.size)) _ _ { s with heap := s.heap.push (seqObj "list" #[] 0) }
  unfold Builtin.List.listExtendWith
  have ho' : (s.heap.push (seqObj "list" #[] 0)).get? l = some o := Heap.get?_push_of_some _ ho
  refine wpAny_bind (wpAny_typeOf (T := "tuple") ⟨o, ho', hc⟩ ?_)
  have ht : (Value.type "tuple" == Value.type "tuple") = true := by rfl
  rw [if_pos (by rw [ht]; simp)]
  refine wpAny_bind (listItems_at ho' hd ?_)
  refine wpAny_bind (listItems_at (xs := #[]) (n := 0) (Heap.get?_push_size _ rfl) rfl ?_)
  rw [if_neg (by simp)]
  refine wpAny_bind (listUpdate_at (xs := #[]) (n := 0) (Heap.get?_push_size _ rfl) rfl ?_ (Nat.zero_le _) (by show (#[] ++ vs.toArray).size ≤ sizeLine + 1; simp only [Array.size_append, List.size_toArray, List.length_nil]; omega))
  refine wpAny_pure ?_
  show wpAny (model prog w) A (do
      let o ← load s.heap.objs.size
      match o.data with
      | .seq xs _ => pure xs.toList
      | _ => unsupported "internal:collect") Q E { s with heap := (s.heap.push (seqObj "list" #[] 0)).update s.heap.objs.size (Obj.mapSeq (· ++ vs.toArray)) }
  refine wpAny_bind (wpAny_load (get?_update_seq (Heap.get?_push_size _ rfl) _) ?_)
  show wpAny _ _ (pure ((#[] : Array Value) ++ vs.toArray).toList) Q E _
  rw [show ((#[] : Array Value) ++ vs.toArray).toList = vs by simp]
  exact wpAny_pure h
theorem sorted_ordT {l : Addr} {vs : List Value} {ltv : Value → Value → Bool} {Q : Value → Shared → Prop} (O : Swo ltv) (hl : s.heap.IsTuple l vs.toArray) (hz : vs.length ≤ sizeLine)
    (hS : 2 ≤ vs.length → ∀ (h₁ : Heap) (a : Addr), h₁.get? a = some (seqObj "list" vs.toArray 0) → (∀ b o, s.heap.get? b = some o → b ≠ a ∧ h₁.get? b = some o) → SortableO prog w A.in1.in1 { s with heap := h₁ } a vs ltv)
    (h : ∀ out : List Value, Srtd ltv out → Stb ltv out vs → Q (.ref (s.heap.objs.size + 1)) { s with heap := sortedAll s.heap vs out.toArray }) :
    wpAny (model prog w) A (call (.builtin "sorted") [.ref l]) Q E s := by
  refine Calls.call_function_entry kind_sorted plain_sorted entry_sorted (args_sorted1 _) ?_
  unfold Builtin.«sorted»
  refine wpAny_bind (m := checkCount "sorted" 1 1 _) (wpAny_pure ?_)
  refine wpAny_bind (collect_tupT hl ?_ hz)
  refine wpAny_bind (wpAny_newList ?_ hz)
  have hsz : ((s.heap.push (seqObj "list" #[] 0)).update s.heap.objs.size (Obj.mapSeq (· ++ vs.toArray))).objs.size = s.heap.objs.size + 1 := by
    rw [Heap.size_update, size_push']
  have hoL : (((s.heap.push (seqObj "list" #[] 0)).update s.heap.objs.size (Obj.mapSeq (· ++ vs.toArray))).push (seqObj "list" vs.toArray 0)).get? (s.heap.objs.size + 1) = some (seqObj "list" vs.toArray 0) := by
    rw [← hsz]; exact Heap.get?_push_size _ rfl
  have keep : ∀ b o, s.heap.get? b = some o → b ≠ s.heap.objs.size + 1 ∧ (((s.heap.push (seqObj "list" #[] 0)).update s.heap.objs.size (Obj.mapSeq (· ++ vs.toArray))).push (seqObj "list" vs.toArray 0)).get? b = some o := fun b o q => by
    have hlt : b < s.heap.objs.size := Heap.lt_size q
    refine ⟨Nat.ne_of_lt (Nat.lt_succ_of_lt hlt), Heap.get?_push_of_some _ ?_⟩
    rw [Heap.get?_update_ne _ _ _ _ (Nat.ne_of_lt hlt)]
    exact Heap.get?_push_of_some _ q
  show wpAny _ _ _ _ _ { s with heap := ((s.heap.push (seqObj "list" #[] 0)).update s.heap.objs.size (Obj.mapSeq (· ++ vs.toArray))).push (seqObj "list" vs.toArray 0) }
  rw [hsz]
  refine wpAny_bind (wpAny_holding (wpAny_call_entry slot_list_sort ⟨_, hoL, rfl⟩ entry_list_sort (list_sort_ord O hoL hz (fun h2 => hS h2 _ _ hoL keep) fun out hs hb => ⟨_, rfl, ?_⟩) (args_list_sort _)))
  exact wpAny_pure ⟨_, rfl, h out hs hb⟩
end
end SrtO
namespace Toy
open PySem PySem.Spec PyProof.Rows L2
def rSortedIT (K : PySem.W.Frag) : List V → Hp → VK → Prop := fun vs H Q => ∃ (a : Addr) (ns : List Int), vs = [V.ref a] ∧ SqT K H a (ns.map V.int) ∧
  ∀ (ns' : List Int) (p : Addr), ns'.Perm ns → ns'.Pairwise (· ≤ ·) → H p = none → Q (.ref p) (upd H p (.lst (ns'.map V.int)))
theorem cr_sortedIT {X : Cx} : CallR X (.builtin "sorted") (rSortedIT X.K) := by
  intro pins s σ H vs us Q I r h
  obtain ⟨a, ns, rfl, hs, q⟩ := h
  obtain ⟨its, rv, hl, hz⟩ := I.tuple hs
  rw [Vals.ref1 r]
  have hi := rv.ints
  refine SrtO.sorted_ordT SrtO.swo_int (tup_is hl) (by rw [← rv.length]; exact hz) (fun h2 h₁ a' _ _ => SrtO.ints_sortable hi h2) fun out h1 h2 => ?_
  obtain ⟨k1, k2, k3⟩ := SrtO.ints_out hi h1 h2
  obtain ⟨ep, he'⟩ := PyProof.Rows.sortedAll_at s.heap its out.toArray
  have hlen : ((out.map SrtO.iv).map V.int).length ≤ sizeLine := by
    rw [List.length_map, k2.length_eq]
    rw [List.length_map] at hz
    exact hz
  exact ⟨.ref _, upd H (s.heap.objs.size + 1) (.lst ((out.map SrtO.iv).map V.int)), I.laid (t' := s.toks) (fun _ _ => PyProof.Rows.sortedAll_old) (Nat.le_succ _) ⟨hlen, out, ep, vals_of_ints k1, he'⟩, rfl, q _ _ k2 k3 (I.hok.fresh (Nat.le_succ _))⟩
/-! ### xs[lo::step] of a list of an even number of things, by twos -/
def by2 {α : Type} (lo : Nat) (xs : List α) : List α := (List.range (xs.length / 2)).filterMap fun i => xs[lo + 2 * i]?
def tStep (K : PySem.W.Frag) (lo : Nat) (te : TE) : TE := fun σ H Q => te σ H fun x H1 => ∃ a xs, x = .ref a ∧ SqL K H1 a xs ∧ xs.length % 2 = 0 ∧ ∀ p, H1 p = none → Q (.ref p) (upd H1 p (.lst (by2 lo xs)))
theorem by2_len {α : Type} {lo : Nat} (hl : lo ≤ 1) {xs : List α} : (by2 lo xs).length ≤ xs.length := by
  unfold by2
  refine Nat.le_trans (List.length_filterMap_le _ _) ?_
  rw [List.length_range]
  omega
theorem pick2 {lo : Nat} (hl : lo ≤ 1) {its : List Value} (h2 : its.length % 2 = 0) : slicePick its.toArray (some (lo : Int)) none (some 2) = (by2 lo its).toArray := by
  unfold slicePick by2
  congr 1
  have e : sliceBounds (some (lo : Int)) none (some 2) its.toArray.size = (if its.length = 0 then (0 : Int) else (lo : Int), (its.length : Int), 2) := by
    simp only [sliceBounds, Option.getD_some, List.size_toArray]
    have h1 : ¬ ((lo : Int) < 0) := by omega
    simp only [h1, if_false, show (2 : Int) > 0 by decide, if_true]
    split
    · congr 1; omega
    · congr 1; omega
  rw [e]
  dsimp only
  unfold sliceRange
  by_cases h0 : its.length = 0
  · have : its = [] := List.eq_nil_of_length_eq_zero h0
    subst this
    rfl
  · simp only [h0, if_false, show (2 : Int) > 0 by decide, if_true]
    rw [if_pos (by omega : (lo : Int) < (its.length : Int)), show (((its.length : Int) - lo + 2 - 1) / 2).toNat = its.length / 2 by omega, List.filterMap_map]
    refine congrArg (fun f => List.filterMap f (List.range (its.length / 2))) (funext fun k => ?_)
    show its.toArray[((lo : Int) + 2 * (k : Int)).toNat]? = _
    rw [show ((lo : Int) + 2 * (k : Int)).toNat = lo + 2 * k by omega]
    simp
theorem Vals.by2 {lo : Nat} {xs : List V} {us : List Value} (r : Vals xs us) : Vals (by2 lo xs) (by2 lo us) := by
  unfold Toy.by2
  rw [r.length]
  generalize List.range (us.length / 2) = l
  induction l with
  | nil => exact .nil
  | cons i l ih =>
    cases hx : xs[lo + 2 * i]? with
    | none =>
      have hu : us[lo + 2 * i]? = none := by
        rw [List.getElem?_eq_none_iff] at hx ⊢
        rw [← r.length]; exact hx
      rw [List.filterMap_cons, List.filterMap_cons, hx, hu]
      exact ih
    | some x =>
      obtain ⟨u, hu, ru⟩ := r.get hx
      rw [List.filterMap_cons, List.filterMap_cons, hx, hu]
      exact .cons ru ih
theorem pe_step2 {X : Cx} {e : Expr} {te : TE} {lo : Nat} (hlo : lo ≤ 1) {i : Int} (hi : i = (lo : Int)) {k j : Nat} {p1 p2 p3 pos : Pos} (he : PE X e te) : PE X (.Subscript e (.Slice (some (.Constant (.int i) k p1)) none (some (.Constant (.int 2) j p2)) p3) pos) (tStep X.K lo te) := by
  subst hi
  refine ⟨fun pins s σ H Q I h => ?_⟩
  refine Subscript_ (thn (he.run pins s σ H _ I h) fun v s1 ⟨x, H1, I1, r1, q1⟩ => ?_)
  obtain ⟨a, xs, ex, hx, heven, q⟩ := q1
  subst ex
  cases r1
  have hlw : PO X (some (.Constant (.int (lo : Int)) k p1)) (tPart (tC (.int (lo : Int)))) := po_some pe_int
  have hst : PO X (some (.Constant (.int 2) j p2)) (tPart (tC (.int 2))) := po_some pe_int
  refine wpAny_Slice (thn (hlw.run pins s1 σ H1 (fun o H2 => o = some (lo : Int) ∧ H2 = H1) I1 ⟨_, rfl, rfl, rfl⟩) fun vl s2 ⟨l, H2, I2, pl, el, e2⟩ => ?_)
  subst el e2
  refine thn (po_none.run pins s2 σ H2 (fun o H3 => o = none ∧ H3 = H2) I2 ⟨rfl, rfl⟩) fun vu s3 ⟨u, H3, I3, pu, eu, e3⟩ => ?_
  subst eu e3
  refine thn (hst.run pins s3 σ H3 (fun o H4 => o = some 2 ∧ H4 = H3) I3 ⟨2, rfl, rfl, rfl⟩) fun vs s4 ⟨o, H4, I4, ps, eo, e4⟩ => ?_
  subst eo e4
  have I5 : Inv X pins σ H4 { s4 with heap := s4.heap.push { cls := .type "slice", data := .fields #[vl, vu, vs] } } := I4.kept (t' := s4.toks) fun b ob q => Heap.get?_push_of_some _ q
  obtain ⟨its, r, ht, hz⟩ := I5.list hx
  have hlen := r.length
  show wpAny (model X.prog X.w) X.A (subscriptTail e (.Slice (some (.Constant (.int (lo : Int)) k p1)) none (some (.Constant (.int 2) j p2)) p3) (.ref a) (.ref s4.heap.objs.size)) (EP X pins σ Q) X.xe { s4 with heap := s4.heap.push { cls := .type "slice", data := .fields #[vl, vu, vs] } }
  refine tail_any (ops := [.ref a, .ref s4.heap.objs.size]) ht.isList.typeIs (PySem.slot_list_getitem.lookup) ?_ (by with_unfolding_all rfl)
  refine wpAny_getItem_list_slice ht.isList (Heap.IsSliceOf.new _ vl vu vs) pl pu ps (by decide) ?_ (by rw [List.size_toArray]; omega)
  rw [pick2 hlo (by omega)]
  refine ⟨.ref _, _, I5.laid (t' := s4.toks) (o := .lst (by2 lo xs)) (fun b ob q => Heap.get?_push_of_some _ q) (Nat.le_refl _) ?_, rfl, q _ (I5.hok.fresh (Nat.le_refl _))⟩
  exact ⟨Nat.le_trans (by2_len hlo) hz, _, 0, Vals.by2 r, Heap.get?_push_size _ rfl⟩
/-! ### [.. for i in range(lo, hi, c)] -/
theorem lc_rangeC {lo c : Int} {n : Nat} {g : TG} {tt : TT} {te : TE} {vs : List Nat} {σ : L2.St} {H1 : Hp} {D : Addr} {Qd : Hp → Prop} (Pv : Nat → Hp → Prop) (h0 : Pv 0 (upd H1 D (.lst [])))
    (hs : ∀ (i : Nat) H, i < n → Pv i H → g (.int (lo + (i : Nat) * c)) (wipe σ vs) H fun σ2 H2 => wipe σ2 vs = wipe σ vs ∧ tt σ2 H2 fun b H3 =>
      if b = true then te σ2 H3 fun y H4 => ∃ acc, H4 D = some (.lst acc) ∧ acc.length < sizeLine ∧ Pv (i + 1) (upd H4 D (.lst (acc ++ [y]))) else Pv (i + 1) H3) (hd : ∀ H, Pv n H → Qd H) :
    ∃ W : Nat → Nat → Hp → Prop, (∃ m, W 0 m (upd H1 D (.lst []))) ∧ ∀ i m H, W i m H →
      ((Itc lo c n).stop i H ∧ Qd H) ∨ ((Itc lo c n).go i H ∧ ∃ Nx : Hp → Prop, (∀ H', Nx H' → ∃ m', m' < m ∧ W (i + 1) m' H') ∧ ∀ x H', (Itc lo c n).yld i H x H' → g x (wipe σ vs) H' fun σ2 H2 => wipe σ2 vs = wipe σ vs ∧ tt σ2 H2 fun b H3 =>
        if b = true then te σ2 H3 fun y H4 => ∃ acc, H4 D = some (.lst acc) ∧ acc.length < sizeLine ∧ Nx (upd H4 D (.lst (acc ++ [y]))) else Nx H3) := by
  refine lc_it (I := Itc lo c n) (n := n) Pv h0 (fun i H hi p => hi) (fun H p => Nat.le_refl _) ?_ hd
  rintro i x H H' hi p ⟨e, y⟩
  subst e y
  exact hs i _ hi p
/-! ### shown data: one look -/
structure Sh (d : PyData) (n c : Nat) : Prop where
  s : d.showable = true
  dep : d.depth ≤ n
  c : cst d ≤ c
theorem shAll {α : Type} {f : α → PyData} {n c : Nat} : ∀ {xs : List α}, (∀ x ∈ xs, Sh (f x) n c) → PyData.showableAll (xs.map f) = true ∧ PyData.depthAll (xs.map f) ≤ n ∧ csts (xs.map f) ≤ (c + 4) * xs.length
  | [], _ => ⟨rfl, Nat.zero_le _, Nat.zero_le _⟩
  | x :: r, h => by
    obtain ⟨h1, h2, h3⟩ := shAll (xs := r) fun y hy => h y (List.mem_cons_of_mem _ hy)
    obtain ⟨g1, g2, g3⟩ := h x List.mem_cons_self
    refine ⟨?_, ?_, ?_⟩
    · simp only [List.map_cons, PyData.showableAll, g1, h1, Bool.and_self]
    · simp only [List.map_cons, PyData.depthAll]; omega
    · simp only [List.map_cons, csts, List.length_cons, Nat.mul_add, Nat.mul_one]; omega
theorem Sh.tup {α : Type} {f : α → PyData} {n c m k j : Nat} {xs : List α} (h : ∀ x ∈ xs, Sh (f x) n c) (hm : n + 1 ≤ m) (hl : xs.length ≤ j) (hk : (c + 4) * j + 4 ≤ k) : Sh (.tuple (xs.map f)) m k := by
  obtain ⟨h1, h2, h3⟩ := shAll h
  have h4 := Nat.mul_le_mul_left (c + 4) hl
  refine ⟨h1, ?_, ?_⟩
  · simp only [PyData.depth]; omega
  · show csts _ + 4 ≤ k; omega
theorem Sh.lst {α : Type} {f : α → PyData} {n c m k j : Nat} {xs : List α} (h : ∀ x ∈ xs, Sh (f x) n c) (hm : n + 1 ≤ m) (hl : xs.length ≤ j) (hk : (c + 4) * j + 4 ≤ k) : Sh (.list (xs.map f)) m k := by
  obtain ⟨h1, h2, h3⟩ := shAll h
  have h4 := Nat.mul_le_mul_left (c + 4) hl
  refine ⟨h1, ?_, ?_⟩
  · simp only [PyData.depth]; omega
  · show csts _ + 4 ≤ k; omega
theorem int_sh {i : Int} (h1 : -(10 ^ 100) ≤ i) (h2 : i ≤ 10 ^ 100) : Sh (.int i) 0 1921 := by
  refine ⟨?_, Nat.le_refl _, Nat.le_refl _⟩
  have : i.natAbs.log2 < 1920 := log_lt (by decide) (Nat.lt_of_le_of_lt (m := 10 ^ 100) (by omega) (by decide))
  simpa [PyData.showable] using this
theorem Sh.mono {d : PyData} {n c n' c' : Nat} (h : Sh d n c) (h1 : n ≤ n') (h2 : c ≤ c') : Sh d n' c' := ⟨h.s, Nat.le_trans h.dep h1, Nat.le_trans h.c h2⟩
theorem rep_ {K : PySem.W.Frag} {σ : L2.St} {H : Hp} {x : V} {d : PyData} {n c : Nat} {Q : VK} (hd : Dp K H x d) (s : Sh d n c) (hn : n ≤ 60 := by decide) (hc : c ≤ 10000000 := by decide) (q : Q (.str d.shown) H) :
    tNil σ H (fun xs H2 => (fun vs H1 => rRepr K vs H1 Q) (x :: xs) H2) :=
  ⟨x, d, rfl, hd, s.s, Nat.le_trans s.dep hn, shown_sz s.s (dp_noDict d x hd) (Nat.le_trans s.c hc), q⟩
theorem dps {α : Type} {K : PySem.W.Frag} {H : Hp} {g : α → V} {f : α → PyData} : ∀ {xs : List α}, (∀ x ∈ xs, Dp K H (g x) (f x)) → DpAll K H (xs.map g) (xs.map f)
  | [], _ => .nil
  | x :: r, h => .cons (h x List.mem_cons_self) (dps fun y hy => h y (List.mem_cons_of_mem _ hy))
/-! ### data: rows of numbers, grids, folds by a table -/
def iN (xs : List Nat) : List Int := xs.map fun n : Nat => (n : Int)
theorem iN_at {xs : List Nat} {j n : Nat} (h : xs[j]? = some n) : ((iN xs).map V.int)[j]? = some (.int (n : Nat)) := by
  unfold iN
  rw [List.getElem?_map, List.getElem?_map, h] <;> rfl
theorem iN_len {xs : List Nat} : ((iN xs).map V.int).length = xs.length := by unfold iN; rw [List.length_map, List.length_map]
theorem iN_snoc {xs : List Nat} {n : Nat} : (iN xs).map V.int ++ [.int (n : Nat)] = (iN (xs ++ [n])).map V.int := by unfold iN; rw [List.map_append, List.map_append] <;> rfl
theorem iN_app {xs ys : List Nat} : (iN xs).map V.int ++ (iN ys).map V.int = (iN (xs ++ ys)).map V.int := by unfold iN; rw [List.map_append, List.map_append]
theorem iN_mem {xs : List Nat} {y : V} {i : Nat} (h : ((iN xs).map V.int)[i]? = some y) : ∃ n : Nat, y = .int (n : Nat) ∧ xs[i]? = some n := by
  unfold iN at h
  rw [List.getElem?_map, List.getElem?_map] at h
  cases hx : xs[i]? with
  | none => rw [hx] at h; cases h
  | some n => rw [hx] at h; exact ⟨n, (Option.some.inj h).symm, rfl⟩
theorem getD_at {xs : List Nat} {j : Nat} (h : j < xs.length) : xs[j]? = some (xs.getD j 0) := by
  rw [List.getD_eq_getElem?_getD, List.getElem?_eq_getElem h] <;> rfl
theorem getD_mem {xs : List Nat} {j : Nat} (h : j < xs.length) : xs.getD j 0 ∈ xs := by
  rw [List.getD_eq_getElem?_getD, List.getElem?_eq_getElem h]
  exact List.getElem_mem h
theorem cut_to {xs : List V} (n : Nat) : cutV xs none (some (n : Int)) = xs.take n := by
  unfold cutV
  rw [HT.sIx_nat, HT.sIx_none, List.drop_zero, Nat.sub_zero]
  by_cases c : n ≤ xs.length
  · rw [Nat.min_eq_left c]
  · rw [Nat.min_eq_right (by omega), List.take_length, List.take_of_length_le (by omega)]
theorem cut_from {xs : List V} (n : Nat) : cutV xs (some (n : Int)) none = xs.drop n := by
  unfold cutV
  rw [HT.sIx_nat, HT.sIx_none]
  by_cases c : n ≤ xs.length
  · rw [Nat.min_eq_left c]
    exact List.take_of_length_le (by rw [List.length_drop]; omega)
  · rw [Nat.min_eq_right (by omega), Nat.sub_self, List.take_zero, List.drop_of_length_le (by omega)]
/-! ### data: toggles, merged -/
theorem by2_map {α β : Type} {lo : Nat} {f : α → β} {xs : List α} : by2 lo (xs.map f) = (by2 lo xs).map f := by
  unfold by2
  rw [List.length_map, List.map_filterMap]
  exact congrArg (fun g => List.filterMap g _) (funext fun i => by rw [List.getElem?_map])
theorem by2_is {lo : Nat} (hl : lo ≤ 1) {xs : List Nat} (h : xs.length % 2 = 0) : by2 lo xs = (List.range (xs.length / 2)).map fun i => xs.getD (lo + 2 * i) 0 := by
  unfold by2
  rw [← List.filterMap_eq_map]
  have key : ∀ l : List Nat, (∀ i ∈ l, i < xs.length / 2) → l.filterMap (fun i => xs[lo + 2 * i]?) = l.filterMap (some ∘ fun i => xs.getD (lo + 2 * i) 0) := by
    intro l hl2
    induction l with
    | nil => rfl
    | cons i l ih =>
      have h1 := hl2 i List.mem_cons_self
      have h2 : lo + 2 * i < xs.length := by omega
      rw [List.filterMap_cons, List.filterMap_cons, List.getElem?_eq_getElem h2, ih fun j hj => hl2 j (List.mem_cons_of_mem _ hj)]
      show xs[lo + 2 * i] :: _ = xs.getD (lo + 2 * i) 0 :: _
      rw [List.getD_eq_getElem?_getD, List.getElem?_eq_getElem h2] <;> rfl
  exact key _ fun i hi => List.mem_range.mp hi
theorem by2_half {lo : Nat} (hl : lo ≤ 1) {xs : List Nat} (h : xs.length % 2 = 0) : (by2 lo xs).length = xs.length / 2 := by rw [by2_is hl h, List.length_map, List.length_range]
def mgd : Nat → List Nat → List Nat → List (Nat × Nat) × List Nat
  | 0, a, b => ([(a.getD 0 0, b.getD 0 0)], [a.getD 0 0, b.getD 0 0])
  | n + 1, a, b => ((mgd n (by2 0 a) (by2 1 b)).1 ++ (mgd n (by2 1 a) (by2 0 b)).1 ++ (mgd n (by2 0 a) (by2 1 b)).2.zip (mgd n (by2 1 a) (by2 0 b)).2,
      ((mgd n (by2 0 a) (by2 1 b)).2.zip (mgd n (by2 1 a) (by2 0 b)).2).flatMap fun p => [p.1, p.2])
def fl (z : List (Nat × Nat)) : List Nat := z.flatMap fun p => [p.1, p.2]
theorem fl_len (z : List (Nat × Nat)) : (fl z).length = 2 * z.length := by
  induction z with
  | nil => rfl
  | cons p z ih =>
    show (p.1 :: p.2 :: fl z).length = _
    rw [List.length_cons, List.length_cons, ih, List.length_cons]; omega
theorem fl_snoc (z : List (Nat × Nat)) (p : Nat × Nat) : fl (z ++ [p]) = fl z ++ [p.1, p.2] := by unfold fl; rw [List.flatMap_append] <;> rfl
theorem two_pow_even (n : Nat) : 2 ^ (n + 1) % 2 = 0 ∧ 2 ^ (n + 1) / 2 = 2 ^ n := by rw [Nat.pow_succ]; omega
theorem mg_len : ∀ n {a b : List Nat}, a.length = 2 ^ n → b.length = 2 ^ n → (mgd n a b).2.length = 2 ^ (n + 1)
  | 0, _, _, _, _ => rfl
  | n + 1, a, b, ha, hb => by
    obtain ⟨e1, e2⟩ := two_pow_even n
    have h1 := mg_len n (a := by2 0 a) (b := by2 1 b) (by rw [by2_half (by decide) (by omega)]; omega) (by rw [by2_half (by decide) (by omega)]; omega)
    have h2 := mg_len n (a := by2 1 a) (b := by2 0 b) (by rw [by2_half (by decide) (by omega)]; omega) (by rw [by2_half (by decide) (by omega)]; omega)
    show (fl _).length = _
    rw [fl_len, List.length_zip, h1, h2, Nat.min_self, Nat.pow_succ _ (n + 1)]; omega
theorem mg_tog : ∀ n {a b : List Nat}, a.length = 2 ^ n → b.length = 2 ^ n → (mgd n a b).1.length = (n + 1) * 2 ^ n
  | 0, _, _, _, _ => rfl
  | n + 1, a, b, ha, hb => by
    obtain ⟨e1, e2⟩ := two_pow_even n
    have l1 : (by2 0 a).length = 2 ^ n := by rw [by2_half (by decide) (by omega)]; omega
    have l2 : (by2 1 b).length = 2 ^ n := by rw [by2_half (by decide) (by omega)]; omega
    have l3 : (by2 1 a).length = 2 ^ n := by rw [by2_half (by decide) (by omega)]; omega
    have l4 : (by2 0 b).length = 2 ^ n := by rw [by2_half (by decide) (by omega)]; omega
    show ((mgd n (by2 0 a) (by2 1 b)).1 ++ (mgd n (by2 1 a) (by2 0 b)).1 ++ (mgd n (by2 0 a) (by2 1 b)).2.zip (mgd n (by2 1 a) (by2 0 b)).2).length = _
    rw [List.length_append, List.length_append, List.length_zip, mg_tog n l1 l2, mg_tog n l3 l4, mg_len n l1 l2, mg_len n l3 l4, Nat.min_self]
    have e3 : 2 ^ (n + 1) = 2 * 2 ^ n := by rw [Nat.pow_succ]; omega
    rw [e3, show n + 1 + 1 = (n + 1) + 1 by rfl, Nat.add_mul (n + 1) 1, Nat.mul_left_comm (n + 1) 2]
    omega
/-- the whole net -/
def cl : Nat → List Nat → List (Nat × Nat) × List Nat
  | 0, ls => ([], ls)
  | n + 1, ls => ((cl n (ls.take (2 ^ n))).1 ++ (cl n (ls.drop (2 ^ n))).1 ++ (mgd n (cl n (ls.take (2 ^ n))).2 (cl n (ls.drop (2 ^ n))).2).1, (mgd n (cl n (ls.take (2 ^ n))).2 (cl n (ls.drop (2 ^ n))).2).2)
theorem cl_len : ∀ n {ls : List Nat}, ls.length = 2 ^ n → (cl n ls).2.length = 2 ^ n
  | 0, _, h => h
  | n + 1, ls, h => by
    have e3 : 2 ^ (n + 1) = 2 ^ n + 2 ^ n := by rw [Nat.pow_succ]; omega
    exact mg_len n (cl_len n (by rw [List.length_take]; omega)) (cl_len n (by rw [List.length_drop]; omega))
def PtsAt (H : Hp) (ts : List Addr) (ps : List (Nat × Nat)) : Prop := ts.length = ps.length ∧ ∀ (j : Nat) (t : Addr) (p : Nat × Nat), ts[j]? = some t → ps[j]? = some p → H t = some (.tup [.int (p.1 : Nat), .int (p.2 : Nat)])
theorem PtsAt.same {H H' : Hp} {ts : List Addr} {ps : List (Nat × Nat)} (e : Same H H') (h : PtsAt H ts ps) : PtsAt H' ts ps := ⟨h.1, fun j t p h1 h2 => e _ _ (h.2 j t p h1 h2)⟩
theorem PtsAt.app {H : Hp} {ts us : List Addr} {ps qs : List (Nat × Nat)} (a : PtsAt H ts ps) (b : PtsAt H us qs) : PtsAt H (ts ++ us) (ps ++ qs) := by
  refine ⟨by rw [List.length_append, List.length_append, a.1, b.1], fun j t p h1 h2 => ?_⟩
  by_cases c : j < ts.length
  · rw [List.getElem?_append_left c] at h1
    rw [List.getElem?_append_left (by rw [← a.1]; exact c)] at h2
    exact a.2 j t p h1 h2
  · rw [List.getElem?_append_right (by omega)] at h1
    rw [List.getElem?_append_right (by rw [← a.1]; omega)] at h2
    rw [← a.1] at h2
    exact b.2 _ t p h1 h2
theorem PtsAt.one {H : Hp} {t : Addr} {p : Nat × Nat} (h : H t = some (.tup [.int (p.1 : Nat), .int (p.2 : Nat)])) : PtsAt H [t] [p] := by
  refine ⟨rfl, fun j t' p' h1 h2 => ?_⟩
  cases j with
  | zero => cases (Option.some.inj h1); cases (Option.some.inj h2); exact h
  | succ j => simp at h1
theorem pts_of {H : Hp} {ts : List Addr} {u l : List Nat} (hl : ts.length = ((iN u).map V.int).length) (he : u.length = l.length) (h : PairsAt H ts ((iN u).map V.int) ((iN l).map V.int)) : PtsAt H ts (u.zip l) := by
  rw [iN_len] at hl
  refine ⟨by rw [List.length_zip, ← he, Nat.min_self, hl], fun j t p h1 h2 => ?_⟩
  obtain ⟨a, b⟩ := p
  obtain ⟨c1, c2⟩ := List.getElem?_zip_eq_some.mp h2
  exact h j t _ _ h1 (iN_at c1) (iN_at c2)
def PL (H : Hp) (L : Addr) (ps : List (Nat × Nat)) : Prop := ∃ ts : List Addr, H L = some (.lst (ts.map V.ref)) ∧ PtsAt H ts ps
theorem PL.same {H H' : Hp} {L : Addr} {ps : List (Nat × Nat)} (e : Same H H') (h : PL H L ps) : PL H' L ps := by
  obtain ⟨ts, h1, h2⟩ := h; exact ⟨ts, e _ _ h1, h2.same e⟩
def MgAt (H : Hp) (T : Addr) (r : List (Nat × Nat) × List Nat) : Prop := ∃ L1 L2 : Addr, H T = some (.tup [.ref L1, .ref L2]) ∧ PL H L1 r.1 ∧ H L2 = some (.lst ((iN r.2).map V.int))
/-- the row of what is told is new -/
def FrT (H H' : Hp) (T : Addr) : Prop := ∀ L1 L2 : Addr, H' T = some (.tup [.ref L1, .ref L2]) → H L2 = none
theorem FrT.of {H H' : Hp} {T L1 L2 : Addr} (h : H' T = some (.tup [.ref L1, .ref L2])) (n : H L2 = none) : FrT H H' T := fun M1 M2 h2 => by
  have e := (HO.tup.inj (Option.some.inj (h.symm.trans h2)))
  cases e
  exact n
def PTu (H : Hp) (U : Addr) (ps : List (Nat × Nat)) : Prop := ∃ ts : List Addr, H U = some (.tup (ts.map V.ref)) ∧ PtsAt H ts ps
theorem PTu.same {H H' : Hp} {L : Addr} {ps : List (Nat × Nat)} (e : Same H H') (h : PTu H L ps) : PTu H' L ps := by
  obtain ⟨ts, h1, h2⟩ := h; exact ⟨ts, e _ _ h1, h2.same e⟩
/-! ### data: the counter -/
structure Ct where
  dx : Addr
  P : Addr
  U : Addr
  R : Addr
  M : Addr
  A : Addr
def cf (c : Ct) : List (Str × V) := putF "at" (.ref c.A) (putF "many_out" (.ref c.M) (putF "row" (.ref c.R) (putF "ups" (.ref c.U) (putF "pairs" (.ref c.P) []))))
theorem cf_pairs (c : Ct) : (cf c).lookup ("pairs" : Str) = some (.ref c.P) := by
  unfold cf
  rw [lookup_putF, if_neg (by decide +kernel), lookup_putF, if_neg (by decide +kernel), lookup_putF, if_neg (by decide +kernel), lookup_putF, if_neg (by decide +kernel), lookup_putF, if_pos rfl]
theorem cf_ups (c : Ct) : (cf c).lookup ("ups" : Str) = some (.ref c.U) := by
  unfold cf
  rw [lookup_putF, if_neg (by decide +kernel), lookup_putF, if_neg (by decide +kernel), lookup_putF, if_neg (by decide +kernel), lookup_putF, if_pos rfl]
theorem cf_row (c : Ct) : (cf c).lookup ("row" : Str) = some (.ref c.R) := by
  unfold cf
  rw [lookup_putF, if_neg (by decide +kernel), lookup_putF, if_neg (by decide +kernel), lookup_putF, if_pos rfl]
theorem cf_many (c : Ct) : (cf c).lookup ("many_out" : Str) = some (.ref c.M) := by
  unfold cf
  rw [lookup_putF, if_neg (by decide +kernel), lookup_putF, if_pos rfl]
theorem cf_at (c : Ct) : (cf c).lookup ("at" : Str) = some (.ref c.A) := by
  unfold cf
  rw [lookup_putF, if_pos rfl]
theorem cf_no (c : Ct) {m : Str} (h1 : ¬ m = "at") (h2 : ¬ m = "many_out") (h3 : ¬ m = "row") (h4 : ¬ m = "ups") (h5 : ¬ m = "pairs") : (cf c).lookup m = none := by
  unfold cf
  rw [lookup_putF, if_neg h1, lookup_putF, if_neg h2, lookup_putF, if_neg h3, lookup_putF, if_neg h4, lookup_putF, if_neg h5]
  rfl
/-- where a token is: its line and the next toggle to be looked at, or out -/
abbrev Sp1 := Nat × Option Nat
def AtsAt (H : Hp) (as : List Addr) (sp : List Sp1) : Prop := as.length = sp.length ∧ ∀ (j : Nat) (t : Addr) (s : Sp1), as[j]? = some t → sp[j]? = some s →
  match s with
  | (l, some b) => H t = some (.tup [.int (l : Nat), .int (b : Nat)])
  | (f, none) => H t = some (.tup [.int (f : Nat), .int (-1)])
structure CtAt (C : Addr) (H : Hp) (p : Addr) (c : Ct) (tg : List (Nat × Nat)) (row : List Nat) (ups : List Bool) (outs : List Nat) (sp : List Sp1) : Prop where
  ins_ : H p = some (.ins C c.dx (cf c))
  pairs_ : PL H c.P tg
  ups_ : H c.U = some (.lst (ups.map V.bl))
  row_ : H c.R = some (.lst ((iN row).map V.int))
  outs_ : H c.M = some (.lst ((iN outs).map V.int))
  ats_ : ∃ as : List Addr, H c.A = some (.lst (as.map V.ref)) ∧ AtsAt H as sp
  dist : [c.P, c.U, c.R, c.M, c.A].Nodup
  lu : ups.length = tg.length
  lo : outs.length = row.length
/-- only the lists of this counter that change have changed -/
def Bt (c : Ct) (H H' : Hp) : Prop := ∀ a o, a ≠ c.U → a ≠ c.M → a ≠ c.A → H a = some o → H' a = some o
theorem Bt.trans {c : Ct} {H H1 H2 : Hp} (a : Bt c H H1) (b : Bt c H1 H2) : Bt c H H2 := fun x o h1 h2 h3 h => b x o h1 h2 h3 (a x o h1 h2 h3 h)
theorem same_bt {c : Ct} {H H' : Hp} (s : Same H H') : Bt c H H' := fun x o _ _ _ h => s x o h
theorem Bt.U {c : Ct} {H : Hp} {o : HO} : Bt c H (upd H c.U o) := fun x o' h1 _ _ h => by rw [upd_ne h1]; exact h
theorem Bt.M {c : Ct} {H : Hp} {o : HO} : Bt c H (upd H c.M o) := fun x o' _ h1 _ h => by rw [upd_ne h1]; exact h
theorem Bt.A {c : Ct} {H : Hp} {o : HO} : Bt c H (upd H c.A o) := fun x o' _ _ h1 h => by rw [upd_ne h1]; exact h
/-- as long as its parts stay -/
theorem AtsAt.keep {H H' : Hp} {as : List Addr} {sp : List Sp1} (h : AtsAt H as sp) (k : ∀ t xs, H t = some (.tup xs) → H' t = some (.tup xs)) : AtsAt H' as sp := by
  refine ⟨h.1, fun j t s h1 h2 => ?_⟩
  have h3 := h.2 j t s h1 h2
  obtain ⟨l, b⟩ := s
  cases b with
  | some b => exact k _ _ h3
  | none => exact k _ _ h3
theorem PtsAt.keep {H H' : Hp} {ts : List Addr} {ps : List (Nat × Nat)} (h : PtsAt H ts ps) (k : ∀ t xs, H t = some (.tup xs) → H' t = some (.tup xs)) : PtsAt H' ts ps :=
  ⟨h.1, fun j t p h1 h2 => k _ _ (h.2 j t p h1 h2)⟩
theorem CtAt.but {C : Addr} {H H' : Hp} {p D : Addr} {c : Ct} {tg : List (Nat × Nat)} {row : List Nat} {ups : List Bool} {outs : List Nat} {sp : List Sp1} {ys : List V} (h : CtAt C H p c tg row ups outs sp) (b : But D H H') (hD : H D = some (.lst ys)) (n : D ∉ [c.P, c.U, c.R, c.M, c.A]) : CtAt C H' p c tg row ups outs sp := by
  simp only [List.mem_cons, List.not_mem_nil, or_false, not_or] at n
  obtain ⟨n1, n2, n3, n4, n5⟩ := n
  have k : ∀ t xs, H t = some (.tup xs) → H' t = some (.tup xs) := fun t xs e => b _ _ (ne_of e hD (by intro z; cases z)) e
  obtain ⟨ts, e1, e2⟩ := h.pairs_
  obtain ⟨as, e3, e4⟩ := h.ats_
  exact ⟨b _ _ (ne_of h.ins_ hD (by intro z; cases z)) h.ins_, ⟨ts, b _ _ (Ne.symm n1) e1, e2.keep k⟩, b _ _ (Ne.symm n2) h.ups_, b _ _ (Ne.symm n3) h.row_, b _ _ (Ne.symm n4) h.outs_, ⟨as, b _ _ (Ne.symm n5) e3, e4.keep k⟩, h.dist, h.lu, h.lo⟩
theorem CtAt.same {C : Addr} {H H' : Hp} {p : Addr} {c : Ct} {tg : List (Nat × Nat)} {row : List Nat} {ups : List Bool} {outs : List Nat} {sp : List Sp1} (h : CtAt C H p c tg row ups outs sp) (b : Same H H') : CtAt C H' p c tg row ups outs sp := by
  obtain ⟨ts, e1, e2⟩ := h.pairs_
  obtain ⟨as, e3, e4⟩ := h.ats_
  exact ⟨b _ _ h.ins_, ⟨ts, b _ _ e1, e2.same b⟩, b _ _ h.ups_, b _ _ h.row_, b _ _ h.outs_, ⟨as, b _ _ e3, e4.keep fun t xs e => b _ _ e⟩, h.dist, h.lu, h.lo⟩
/-- the next toggle with a line, from one on -/
def on (tg : List (Nat × Nat)) (l j : Nat) : Prop := l = (tg.getD j (0, 0)).1 ∨ l = (tg.getD j (0, 0)).2
structure Fd (tg : List (Nat × Nat)) (l b n : Nat) : Prop where
  lo : b ≤ n
  hi : n ≤ tg.length
  no : ∀ j, b ≤ j → j < n → ¬ on tg l j
  yes : n < tg.length → on tg l n
theorem Fd.uniq {tg : List (Nat × Nat)} {l b n m : Nat} (h : Fd tg l b n) (g : Fd tg l b m) : n = m := by
  rcases Nat.lt_trichotomy n m with c | c | c
  · exact absurd (h.yes (Nat.lt_of_lt_of_le c g.hi)) (g.no n h.lo c)
  · exact c
  · exact absurd (g.yes (Nat.lt_of_lt_of_le c h.hi)) (h.no m g.lo c)
theorem CtAt.tk {C : Addr} {H H' : Hp} {p : Addr} {c : Ct} {tg : List (Nat × Nat)} {row : List Nat} {ups : List Bool} {outs : List Nat} {sp : List Sp1} (h : CtAt C H p c tg row ups outs sp) (b : Bt c H H') : ∀ t xs, H t = some (.tup xs) → H' t = some (.tup xs) := fun t xs e => by
  obtain ⟨as, e3, _⟩ := h.ats_
  exact b t _ (ne_of e h.ups_ (by intro z; cases z)) (ne_of e h.outs_ (by intro z; cases z)) (ne_of e e3 (by intro z; cases z)) e
theorem CtAt.mv {C : Addr} {H H' : Hp} {p : Addr} {c : Ct} {tg : List (Nat × Nat)} {row : List Nat} {ups ups' : List Bool} {outs outs' : List Nat} {sp sp' : List Sp1} (h : CtAt C H p c tg row ups outs sp) (b : Bt c H H')
    (hu : H' c.U = some (.lst (ups'.map V.bl))) (hm : H' c.M = some (.lst ((iN outs').map V.int))) (ha : ∃ as : List Addr, H' c.A = some (.lst (as.map V.ref)) ∧ AtsAt H' as sp') (lu : ups'.length = ups.length) (lo : outs'.length = outs.length) : CtAt C H' p c tg row ups' outs' sp' := by
  obtain ⟨as, e3, _⟩ := h.ats_
  obtain ⟨ts, e1, e2⟩ := h.pairs_
  have d := h.dist
  simp only [List.nodup_cons, List.mem_cons, List.not_mem_nil, or_false, not_or, List.nodup_nil, and_true, not_false_eq_true] at d
  obtain ⟨⟨d1, d2, d3, d4⟩, ⟨d5, d6, d7⟩, ⟨d8, d9⟩, d10⟩ := d
  exact ⟨b _ _ (ne_of h.ins_ h.ups_ (by intro z; cases z)) (ne_of h.ins_ h.outs_ (by intro z; cases z)) (ne_of h.ins_ e3 (by intro z; cases z)) h.ins_,
    ⟨ts, b _ _ d1 d3 d4 e1, e2.keep (h.tk b)⟩, hu, b _ _ (Ne.symm d5) d8 d9 h.row_, hm, ha, h.dist, lu.trans h.lu, lo.trans h.lo⟩
theorem CtAt.ne {C : Addr} {H : Hp} {p : Addr} {c : Ct} {tg : List (Nat × Nat)} {row : List Nat} {ups : List Bool} {outs : List Nat} {sp : List Sp1} (h : CtAt C H p c tg row ups outs sp) : c.U ≠ c.M ∧ c.U ≠ c.A ∧ c.M ≠ c.A := by
  have d := h.dist
  simp only [List.nodup_cons, List.mem_cons, List.not_mem_nil, or_false, not_or, List.nodup_nil, and_true, not_false_eq_true] at d
  exact ⟨d.2.1.2.1, d.2.1.2.2, d.2.2.2⟩
def spAt (H : Hp) (t : Addr) (s : Sp1) : Prop := match s with
  | (l, some b) => H t = some (.tup [.int (l : Nat), .int (b : Nat)])
  | (f, none) => H t = some (.tup [.int (f : Nat), .int (-1)])
theorem AtsAt.snoc {H : Hp} {as : List Addr} {sp : List Sp1} {t : Addr} {s : Sp1} (h : AtsAt H as sp) (g : spAt H t s) : AtsAt H (as ++ [t]) (sp ++ [s]) := by
  refine ⟨by rw [List.length_append, List.length_append, h.1]; rfl, fun j t' s' h1 h2 => ?_⟩
  by_cases c : j < as.length
  · rw [List.getElem?_append_left c] at h1
    rw [List.getElem?_append_left (by rw [← h.1]; exact c)] at h2
    exact h.2 j t' s' h1 h2
  · rw [List.getElem?_append_right (by omega)] at h1
    rw [List.getElem?_append_right (by rw [← h.1]; omega)] at h2
    rw [← h.1] at h2
    cases hj : j - as.length with
    | zero => rw [hj] at h1 h2; cases (Option.some.inj h1); cases (Option.some.inj h2); exact g
    | succ n => rw [hj] at h1; simp at h1
theorem AtsAt.set {H : Hp} {as : List Addr} {sp : List Sp1} {t : Addr} {s : Sp1} {i : Nat} (h : AtsAt H as sp) (g : spAt H t s) : AtsAt H (as.set i t) (sp.set i s) := by
  refine ⟨by rw [List.length_set, List.length_set, h.1], fun j t' s' h1 h2 => ?_⟩
  by_cases c : i = j
  · subst c
    have hl : i < as.length := by
      obtain ⟨k, _⟩ := List.getElem?_eq_some_iff.mp h1
      rw [List.length_set] at k
      exact k
    rw [List.getElem?_set_self hl] at h1
    rw [List.getElem?_set_self (by rw [← h.1]; exact hl)] at h2
    cases (Option.some.inj h1); cases (Option.some.inj h2); exact g
  · rw [List.getElem?_set_ne c] at h1 h2
    exact h.2 j t' s' h1 h2
theorem eqV_int {a b : Nat} : eqV (.int (a : Nat)) (.int (b : Nat)) = true ↔ a = b := by
  show decide ((a : Int) = (b : Int)) = true ↔ a = b
  rw [decide_eq_true_iff]
  omega
theorem eqV_intF {a b : Nat} (h : a ≠ b) : eqV (.int (a : Nat)) (.int (b : Nat)) = false := by
  show decide ((a : Int) = (b : Int)) = false
  exact decide_eq_false (by omega)
theorem flat_iN {xs : List Nat} : ((iN xs).map V.int).all flatV = true := by
  rw [List.all_eq_true]
  intro x hx
  obtain ⟨i, _, rfl⟩ := List.mem_map.mp hx
  rfl
theorem in_pr {l a b : Nat} : inV (.int (l : Nat)) [.int (a : Nat), .int (b : Nat)] = decide (l = a ∨ l = b) := by
  have h : ∀ x y : Nat, eqV (.int (x : Nat)) (.int (y : Nat)) = decide (y = x) := fun x y => by
    show ((x : Int) == (y : Int)) = _
    by_cases c : y = x
    · subst c; simp
    · rw [decide_eq_false c]; simp; omega
  show (eqV (.int (a : Nat)) (.int (l : Nat)) || (eqV (.int (b : Nat)) (.int (l : Nat)) || false)) = _
  rw [h, h, Bool.or_false]
  by_cases c1 : l = a <;> by_cases c2 : l = b <;> simp [c1, c2]
theorem idx_le : ∀ {xs : List Nat} {m l : Nat}, xs[m]? = some l → xs.idxOf l ≤ m
  | [], m, l, h => by simp at h
  | x :: xs, m, l, h => by
    by_cases c : x = l
    · subst c; rw [List.idxOf_cons_self]; omega
    · rw [List.idxOf_cons, beq_false_of_ne c, cond_false]
      cases m with
      | zero => exact absurd (Option.some.inj h) c
      | succ m => exact Nat.succ_le_succ (idx_le (by simpa using h))
/-! ### data: addresses spread over sides -/
def fp (k : Nat) (A : Nat) : Nat := if h : A = 0 ∨ k = 0 then 0 else (A % 2 ^ k) ^^^ fp k (A / 2 ^ k)
termination_by A
decreasing_by
  have h1 : A ≠ 0 := fun e => h (.inl e)
  have h2 : k ≠ 0 := fun e => h (.inr e)
  exact Nat.div_lt_self (by omega) (Nat.one_lt_two_pow h2)
theorem fp_zero {A : Nat} : fp 0 A = 0 := by rw [fp]; simp
theorem fp_nil {k : Nat} : fp k 0 = 0 := by rw [fp]; simp
theorem fp_eq {k A : Nat} (h : 0 < k) : fp k A = (A % 2 ^ k) ^^^ fp k (A / 2 ^ k) := by
  by_cases c : A = 0
  · subst c
    rw [Nat.zero_mod, Nat.zero_div, fp_nil] <;> rfl
  · rw [fp, dif_neg (by omega)]
theorem fp_lt {k : Nat} : ∀ A, fp k A < 2 ^ k := by
  intro A
  induction A using Nat.strongRecOn with
  | _ A ih =>
    by_cases c : A = 0 ∨ k = 0
    · rw [fp, dif_pos c]
      exact Nat.two_pow_pos k
    · rw [fp, dif_neg c]
      have h2 : k ≠ 0 := fun e => c (.inr e)
      exact Nat.xor_lt_two_pow (Nat.mod_lt _ (Nat.two_pow_pos k)) (ih _ (Nat.div_lt_self (by omega) (Nat.one_lt_two_pow h2)))
/-- the law's own, figure by figure -/
def lw (k : Nat) : Nat → Nat → Nat → Nat
  | 0, _, _ => 0
  | n + 1, at_, A => ((A % 2) <<< (at_ % k)) ^^^ lw k n (at_ + 1) (A / 2)
theorem lw_nil {k : Nat} : ∀ n at_, lw k n at_ 0 = 0
  | 0, _ => rfl
  | n + 1, at_ => by
    show ((0 % 2) <<< (at_ % k)) ^^^ lw k n (at_ + 1) (0 / 2) = 0
    rw [Nat.zero_mod, Nat.zero_div, lw_nil, Nat.zero_shiftLeft] <;> rfl
theorem lw_shift {k : Nat} : ∀ n at_ A, lw k n (at_ + k) A = lw k n at_ A
  | 0, _, _ => rfl
  | n + 1, at_, A => by
    show ((A % 2) <<< ((at_ + k) % k)) ^^^ lw k n (at_ + k + 1) (A / 2) = ((A % 2) <<< (at_ % k)) ^^^ lw k n (at_ + 1) (A / 2)
    rw [Nat.add_mod_right, show at_ + k + 1 = at_ + 1 + k by omega, lw_shift]
/-- more fuel than the number -/
theorem lw_fuel {k : Nat} : ∀ n at_ A, A ≤ n → lw k (n + 1) at_ A = lw k n at_ A
  | 0, at_, A, h => by
    have : A = 0 := by omega
    subst this
    rw [lw_nil, lw_nil]
  | n + 1, at_, A, h => by
    show ((A % 2) <<< (at_ % k)) ^^^ lw k (n + 1) (at_ + 1) (A / 2) = ((A % 2) <<< (at_ % k)) ^^^ lw k n (at_ + 1) (A / 2)
    rw [lw_fuel n _ _ (by omega)]
def ls (k at_ A : Nat) : Nat := lw k A at_ A
theorem lw_ls {k : Nat} : ∀ n at_ A, A ≤ n → lw k n at_ A = ls k at_ A := by
  intro n
  induction n with
  | zero =>
    intro at_ A h
    have : A = 0 := by omega
    subst this
    rfl
  | succ n ih =>
    intro at_ A h
    by_cases c : A = n + 1
    · subst c; rfl
    · rw [lw_fuel n _ _ (by omega), ih _ _ (by omega)]
theorem ls_eq {k at_ A : Nat} : ls k at_ A = ((A % 2) <<< (at_ % k)) ^^^ ls k (at_ + 1) (A / 2) := by
  by_cases c : A = 0
  · subst c
    show 0 = (0 <<< _) ^^^ 0
    rw [Nat.zero_shiftLeft] <;> rfl
  · obtain ⟨n, rfl⟩ : ∃ n, A = n + 1 := ⟨A - 1, by omega⟩
    show ((n + 1) % 2) <<< (at_ % k) ^^^ lw k n (at_ + 1) ((n + 1) / 2) = _
    rw [lw_ls _ _ _ (by omega)]
theorem ls_nil {k at_ : Nat} : ls k at_ 0 = 0 := rfl
theorem ls_turn {k at_ A : Nat} : ls k (at_ + k) A = ls k at_ A := lw_shift _ _ _
theorem par2 : ∀ r, r < 4 → (r % 2) <<< 0 ^^^ ((r / 2 % 2) <<< 1) = r := by decide
theorem par3 : ∀ r, r < 8 → (r % 2) <<< 0 ^^^ ((r / 2 % 2) <<< 1) ^^^ ((r / 2 / 2 % 2) <<< 2) = r := by decide
theorem par4 : ∀ r, r < 16 → (r % 2) <<< 0 ^^^ ((r / 2 % 2) <<< 1) ^^^ ((r / 2 / 2 % 2) <<< 2) ^^^ ((r / 2 / 2 / 2 % 2) <<< 3) = r := by decide
theorem ls_step {k A : Nat} (h0 : 0 < k) (h4 : k ≤ 4) : ls k 0 A = (A % 2 ^ k) ^^^ ls k 0 (A / 2 ^ k) := by
  have t := ls_turn (k := k) (at_ := 0) (A := A / 2 ^ k)
  rw [← t, Nat.zero_add]
  obtain rfl | rfl | rfl | rfl : k = 1 ∨ k = 2 ∨ k = 3 ∨ k = 4 := by omega
  · rw [ls_eq (A := A)] <;> rfl
  · rw [ls_eq (A := A), ls_eq (A := A / 2), ← Nat.xor_assoc]
    have e := par2 (A % 4) (by omega)
    rw [show A % 4 % 2 = A % 2 by omega, show A % 4 / 2 % 2 = A / 2 % 2 by omega] at e
    show ((A % 2) <<< 0 ^^^ ((A / 2 % 2) <<< 1)) ^^^ ls 2 2 (A / 2 / 2) = (A % 4) ^^^ ls 2 2 (A / 4)
    rw [e, show A / 2 / 2 = A / 4 by omega]
  · rw [ls_eq (A := A), ls_eq (A := A / 2), ls_eq (A := A / 2 / 2), ← Nat.xor_assoc, ← Nat.xor_assoc]
    have e := par3 (A % 8) (by omega)
    rw [show A % 8 % 2 = A % 2 by omega, show A % 8 / 2 % 2 = A / 2 % 2 by omega, show A % 8 / 2 / 2 % 2 = A / 2 / 2 % 2 by omega] at e
    show ((A % 2) <<< 0 ^^^ ((A / 2 % 2) <<< 1) ^^^ ((A / 2 / 2 % 2) <<< 2)) ^^^ ls 3 3 (A / 2 / 2 / 2) = (A % 8) ^^^ ls 3 3 (A / 8)
    rw [e, show A / 2 / 2 / 2 = A / 8 by omega]
  · rw [ls_eq (A := A), ls_eq (A := A / 2), ls_eq (A := A / 2 / 2), ls_eq (A := A / 2 / 2 / 2), ← Nat.xor_assoc, ← Nat.xor_assoc, ← Nat.xor_assoc]
    have e := par4 (A % 16) (by omega)
    rw [show A % 16 % 2 = A % 2 by omega, show A % 16 / 2 % 2 = A / 2 % 2 by omega, show A % 16 / 2 / 2 % 2 = A / 2 / 2 % 2 by omega, show A % 16 / 2 / 2 / 2 % 2 = A / 2 / 2 / 2 % 2 by omega] at e
    show ((A % 2) <<< 0 ^^^ ((A / 2 % 2) <<< 1) ^^^ ((A / 2 / 2 % 2) <<< 2) ^^^ ((A / 2 / 2 / 2 % 2) <<< 3)) ^^^ ls 4 4 (A / 2 / 2 / 2 / 2) = (A % 16) ^^^ ls 4 4 (A / 16)
    rw [e, show A / 2 / 2 / 2 / 2 = A / 16 by omega]
theorem ls_fp {k : Nat} (h0 : 0 < k) (h4 : k ≤ 4) : ∀ A, ls k 0 A = fp k A := by
  intro A
  induction A using Nat.strongRecOn with
  | _ A ih =>
    by_cases c : A = 0
    · subst c; rw [ls_nil, fp_nil]
    · rw [ls_step h0 h4, fp_eq h0, ih _ (Nat.div_lt_self (by omega) (Nat.one_lt_two_pow (by omega)))]
/-- back from side and place -/
def adr (k s p : Nat) : Nat := p * 2 ^ k + (s ^^^ fp k p)
theorem adr_part {k s p : Nat} (h : s < 2 ^ k) : adr k s p % 2 ^ k = s ^^^ fp k p ∧ adr k s p / 2 ^ k = p := by
  have h1 := Nat.xor_lt_two_pow h (fp_lt (k := k) p)
  unfold adr
  refine ⟨?_, ?_⟩
  · rw [Nat.mul_comm, Nat.mul_add_mod, Nat.mod_eq_of_lt h1]
  · rw [Nat.mul_comm, Nat.mul_add_div (Nat.two_pow_pos k), Nat.div_eq_of_lt h1, Nat.add_zero]
theorem fp_adr {k s p : Nat} (h : s < 2 ^ k) : fp k (adr k s p) = s := by
  by_cases c : k = 0
  · subst c
    rw [fp_zero]
    have : s < 1 := h
    omega
  · obtain ⟨h1, h2⟩ := adr_part (p := p) h
    rw [fp_eq (by omega), h1, h2, Nat.xor_assoc, Nat.xor_self, Nat.xor_zero]
theorem adr_fp {k A : Nat} : adr k (fp k A) (A / 2 ^ k) = A := by
  unfold adr
  by_cases c : k = 0
  · subst c
    rw [fp_zero, fp_zero]
    show A / 1 * 1 + 0 = A
    omega
  · have h := fp_eq (k := k) (A := A) (by omega)
    have e : fp k A ^^^ fp k (A / 2 ^ k) = A % 2 ^ k := by rw [h, Nat.xor_assoc, Nat.xor_self, Nat.xor_zero]
    rw [e, Nat.mul_comm]
    exact Nat.div_add_mod A (2 ^ k)
/-- a block of neighbours -/
theorem fp_block {k p t : Nat} (h : t < 2 ^ k) : fp k (p * 2 ^ k + t) = t ^^^ fp k p := by
  by_cases c : k = 0
  · subst c
    have : t < 1 := h
    have : t = 0 := by omega
    subst this
    rw [fp_zero, fp_zero] <;> rfl
  · rw [fp_eq (by omega), Nat.mul_comm, Nat.mul_add_mod, Nat.mod_eq_of_lt h, Nat.mul_add_div (Nat.two_pow_pos k), Nat.div_eq_of_lt h, Nat.add_zero]
/-- the figures of a side -/
def bitsL (m s : Nat) : List Int := (List.range m).map fun j => ((s / 2 ^ j % 2 : Nat) : Int)
theorem bits_set : ∀ k, k < 5 → ∀ s, s < 2 ^ k → ∀ j, j < k → ∀ b, b < 2 → (bitsL k s).set j ((((s / 2 ^ j % 2 : Nat) : Int) + (b : Nat)) % 2) = bitsL k (s ^^^ (b <<< j)) ∧ s ^^^ (b <<< j) < 2 ^ k := by decide +kernel
theorem bits_sum : ∀ k, k < 5 → ∀ s, s < 2 ^ k → ((List.range k).map fun j => (((s / 2 ^ j % 2 : Nat) : Int) * 2 ^ j : Int)).sum = s := by decide +kernel
theorem block_perm : ∀ k, k < 5 → ∀ s, s < 2 ^ k → (((List.range (2 ^ k)).map fun t : Nat => ((t ^^^ s : Nat) : Int)).isPerm ((List.range (2 ^ k)).map fun t : Nat => (t : Int))) = true := by decide +kernel
theorem pw_unique : ∀ {xs ys : List Int}, xs.Perm ys → xs.Pairwise (· ≤ ·) → ys.Pairwise (· ≤ ·) → xs = ys := by
  intro xs ys h h1 h2
  exact h.eq_of_pairwise (fun a b _ _ h1 h2 => Int.le_antisymm h1 h2) h1 h2
theorem range_pw (n : Nat) : ((List.range n).map fun t : Nat => (t : Int)).Pairwise (· ≤ ·) := by
  rw [List.pairwise_map]
  exact List.Pairwise.imp (fun h => by omega) List.pairwise_lt_range
/-! ### data: how many lie at each side -/
def cn (N : Nat) (ss : List Nat) : List Int := (List.range N).map fun j => ((ss.count j : Nat) : Int)
theorem cn_len {N : Nat} {ss : List Nat} : (cn N ss).length = N := by unfold cn; rw [List.length_map, List.length_range]
theorem cn_at {N j : Nat} {ss : List Nat} (h : j < N) : (cn N ss)[j]? = some ((ss.count j : Nat) : Int) := by
  unfold cn
  rw [List.getElem?_map, List.getElem?_range h] <;> rfl
theorem cn_set {N j : Nat} {ss : List Nat} (h : j < N) : (cn N ss).set j (((ss.count j : Nat) : Int) + 1) = cn N (ss ++ [j]) := by
  refine List.ext_getElem? fun i => ?_
  rw [List.getElem?_set, cn_len]
  by_cases c : j = i
  · subst c
    rw [if_pos rfl, if_pos h, cn_at h, List.count_append, List.count_singleton_self]
    push_cast; rfl
  · rw [if_neg c]
    by_cases d : i < N
    · rw [cn_at d, cn_at d, List.count_append, List.count_singleton, if_neg (by simpa using c), Nat.add_zero]
    · rw [List.getElem?_eq_none (by rw [cn_len]; omega), List.getElem?_eq_none (by rw [cn_len]; omega)]
theorem cn_nil {N : Nat} : cn N [] = List.replicate N 0 := by
  unfold cn
  refine List.ext_getElem? fun i => ?_
  by_cases c : i < N
  · rw [List.getElem?_map, List.getElem?_range c, List.getElem?_replicate, if_pos c] <;> rfl
  · rw [List.getElem?_eq_none (by rw [List.length_map, List.length_range]; omega), List.getElem?_eq_none (by rw [List.length_replicate]; omega)]
theorem rep_flat (n : Nat) (x : Int) : (List.replicate n [V.int x]).flatten = (List.replicate n x).map V.int := by
  induction n with
  | zero => rfl
  | succ n ih => rw [List.replicate_succ, List.flatten_cons, ih, List.replicate_succ] <;> rfl
def sds (k b s m : Nat) : List Nat := (List.range m).map fun t => fp k (b + t * s)
theorem sds_succ {k b s m : Nat} : sds k b s (m + 1) = sds k b s m ++ [fp k (b + m * s)] := by
  unfold sds
  rw [List.range_succ, List.map_append] <;> rfl
/-- what lies, turned about -/
theorem lw_split {k : Nat} : ∀ n r at_ A, lw k (n + r) at_ A = lw k n at_ A ^^^ lw k r (at_ + n) (A / 2 ^ n)
  | 0, r, at_, A => by
    rw [Nat.zero_add]
    show _ = 0 ^^^ lw k r (at_ + 0) (A / 1)
    rw [Nat.zero_xor, Nat.div_one, Nat.add_zero]
  | n + 1, r, at_, A => by
    rw [show n + 1 + r = (n + r) + 1 by omega]
    show ((A % 2) <<< (at_ % k)) ^^^ lw k (n + r) (at_ + 1) (A / 2) = (((A % 2) <<< (at_ % k)) ^^^ lw k n (at_ + 1) (A / 2)) ^^^ lw k r (at_ + (n + 1)) (A / 2 ^ (n + 1))
    rw [lw_split n r, Nat.xor_assoc, Nat.div_div_eq_div_mul, show at_ + 1 + n = at_ + (n + 1) by omega, show 2 * 2 ^ n = 2 ^ (n + 1) by rw [Nat.pow_succ]; omega]
theorem lw_low {k : Nat} : ∀ n at_ A B, A % 2 ^ n = B % 2 ^ n → lw k n at_ A = lw k n at_ B
  | 0, _, _, _, _ => rfl
  | n + 1, at_, A, B, h => by
    have h1 : A % 2 = B % 2 := by
      have e := congrArg (· % 2) h
      have d : 2 ∣ 2 ^ (n + 1) := ⟨2 ^ n, by rw [Nat.pow_succ]; omega⟩
      simpa [Nat.mod_mod_of_dvd _ d] using e
    have h2 : A / 2 % 2 ^ n = B / 2 % 2 ^ n := by
      have e := congrArg (· / 2) h
      rw [Nat.pow_succ, Nat.mul_comm] at e
      simpa [Nat.mod_mul_right_div_self] using e
    show ((A % 2) <<< (at_ % k)) ^^^ lw k n (at_ + 1) (A / 2) = ((B % 2) <<< (at_ % k)) ^^^ lw k n (at_ + 1) (B / 2)
    rw [h1, lw_low n _ _ _ h2]
theorem lw_congr {k : Nat} : ∀ n a b A, a % k = b % k → lw k n a A = lw k n b A
  | 0, _, _, _, _ => rfl
  | n + 1, a, b, A, h => by
    show ((A % 2) <<< (a % k)) ^^^ lw k n (a + 1) (A / 2) = ((A % 2) <<< (b % k)) ^^^ lw k n (b + 1) (A / 2)
    rw [h, lw_congr n (a + 1) (b + 1) _ (by rw [Nat.add_mod, h, ← Nat.add_mod])]
theorem bit_lt {k b j : Nat} (hb : b < 2) (hj : j < k) : b <<< j < 2 ^ k := by
  rw [Nat.shiftLeft_eq]
  have h1 : 2 ^ (j + 1) ≤ 2 ^ k := Nat.pow_le_pow_right (by decide) (by omega)
  have h2 : b * 2 ^ j ≤ 1 * 2 ^ j := Nat.mul_le_mul_right _ (by omega)
  have h3 := Nat.two_pow_pos j
  rw [Nat.pow_succ] at h1
  omega
theorem lw_lt {k : Nat} (h : 0 < k) : ∀ n a A, lw k n a A < 2 ^ k
  | 0, _, _ => Nat.two_pow_pos k
  | n + 1, a, A => Nat.xor_lt_two_pow (bit_lt (by omega) (Nat.mod_lt _ h)) (lw_lt h n _ _)
theorem ls_shift {k : Nat} : ∀ e a x, ls k a (2 ^ e * x) = ls k (a + e) x
  | 0, a, x => by rw [show 2 ^ 0 * x = x by omega] <;> rfl
  | e + 1, a, x => by
    have e1 : 2 ^ (e + 1) * x = 2 * (2 ^ e * x) := by rw [Nat.pow_succ, Nat.mul_comm (2 ^ e) 2, Nat.mul_assoc]
    rw [e1, ls_eq, show 2 * (2 ^ e * x) % 2 = 0 by omega, show 2 * (2 ^ e * x) / 2 = 2 ^ e * x by omega, Nat.zero_shiftLeft, Nat.zero_xor, ls_shift e (a + 1) x, show a + 1 + e = a + (e + 1) by omega]
theorem ls_block {k e m t : Nat} (ht : t < 2 ^ k) : ls k e (2 ^ k * m + t) = lw k k (e % k) t ^^^ lw k m (e % k) m := by
  have hp := Nat.two_pow_pos k
  have hm : m ≤ 2 ^ k * m + t := by
    have : 1 * m ≤ 2 ^ k * m := Nat.mul_le_mul_right _ hp
    omega
  rw [← lw_ls (k + (2 ^ k * m + t)) e (2 ^ k * m + t) (by omega), lw_split, Nat.mul_add_div hp, Nat.div_eq_of_lt ht, Nat.add_zero, lw_ls _ _ _ hm]
  rw [lw_low k e (2 ^ k * m + t) t (by rw [Nat.mul_add_mod])]
  rw [lw_congr k e (e % k) t (Nat.mod_mod _ _).symm]
  show _ ^^^ lw k m (e + k) m = _
  rw [lw_congr m (e + k) (e % k) m (by rw [Nat.add_mod_right, Nat.mod_mod])]
theorem block_cn : ∀ k, k < 5 → ∀ e, e < 4 → ∀ c, c < 2 ^ k → cn (2 ^ k) ((List.range (2 ^ k)).map fun t => lw k k e t ^^^ c) = List.replicate (2 ^ k) 1 := by decide +kernel
theorem cn_block {k e m : Nat} (hk : k ≤ 4) : cn (2 ^ k) (sds k (2 ^ e * 2 ^ k * m) (2 ^ e) (2 ^ k)) = List.replicate (2 ^ k) 1 := by
  by_cases c : k = 0
  · subst c
    unfold sds
    rw [show (2 : Nat) ^ 0 = 1 from rfl]
    show cn 1 [fp 0 _] = _
    rw [fp_zero] <;> rfl
  · have h0 : 0 < k := by omega
    have e1 : sds k (2 ^ e * 2 ^ k * m) (2 ^ e) (2 ^ k) = (List.range (2 ^ k)).map fun t => lw k k (e % k) t ^^^ lw k m (e % k) m := by
      unfold sds
      refine List.map_congr_left fun t ht => ?_
      rw [← ls_block (List.mem_range.mp ht), ← ls_fp h0 hk, ← Nat.zero_add e, ← ls_shift, Nat.zero_add, Nat.mul_add, Nat.mul_assoc, Nat.mul_comm t]
    rw [e1]
    have he : e % k < k := Nat.mod_lt _ h0
    exact block_cn k (by omega) (e % k) (by omega) _ (lw_lt h0 _ _ _)
/-! ### the pot: digits, and a number mixed on -/
def PotAt (H : Hp) (p : Addr) : Prop := ∃ a b : Int, H p = some (.lst [.int a, .int b]) ∧ 0 ≤ a ∧ 0 ≤ b ∧ b < 2 ^ 40
theorem PotAt.same {H H' : Hp} {p : Addr} (e : Same H H') (h : PotAt H p) : PotAt H' p := by
  obtain ⟨a, b, h1, h2⟩ := h; exact ⟨a, b, e _ _ h1, h2⟩
theorem pot_ne {H : Hp} {p a : Addr} (h : PotAt H p) (n : H a = none) : a ≠ p := fun z => by obtain ⟨_, _, h1, _⟩ := h; rw [← z, n] at h1; cases h1
theorem PotAt.upd {H : Hp} {p D : Addr} {o : HO} (n : p ≠ D) (h : PotAt H p) : PotAt (L2.upd H D o) p := by
  obtain ⟨a, b, h1, h2⟩ := h; exact ⟨a, b, by rw [upd_ne n]; exact h1, h2⟩
end Toy
/-! ### tuples: t + u and t[a:b] of any kind -/
namespace Toy
open PySem PySem.Spec PyProof.Rows L2
def rCatU : R2 := fun x y H Q => ∃ a b xs ys, x = .ref a ∧ y = .ref b ∧ H a = some (.tup xs) ∧ H b = some (.tup ys) ∧ xs.length + ys.length ≤ sizeLine ∧ ∀ p H', Same H H' → H' p = some (.tup (xs ++ ys)) → Q (.ref p) H'
theorem op_catU {X : Cx} : OpR X (binaryOp .Add) rCatU := by
  intro pins s σ H x y v u Q I rx ry h
  obtain ⟨a, b, xs, ys, rfl, rfl, ha, hb, hz, q⟩ := h
  refine op_catA pins s σ H _ _ v u Q I rx ry ⟨a, b, xs, ys, rfl, rfl, SqT.of ha, SqT.of hb, hz, fun e => ?_, fun _ e => ?_, fun _ _ p hp => q p _ (same_new hp _) upd_same⟩
  · subst e
    exact q b H (fun _ _ z => z) (by rw [hb, List.nil_append])
  · subst e
    exact q a H (fun _ _ z => z) (by rw [ha, List.append_nil])
def rSlU : V → Option Int → Option Int → Hp → VK → Prop := fun x lo hi H Q => ∃ a xs, x = .ref a ∧ H a = some (.tup xs) ∧ ∀ p H', Same H H' → H' p = some (.tup (cutV xs lo hi)) → Q (.ref p) H'
theorem sl_tupU {X : Cx} : SlR X rSlU := by
  intro pins s σ H x v vl vu lo hi sl Q I rx hs pl pu h
  obtain ⟨a, xs, rfl, ha, q⟩ := h
  refine sl_tupA pins s σ H _ v vl vu lo hi sl Q I rx hs pl pu ⟨a, xs, rfl, SqT.of ha, fun e => ?_, fun _ p hp => q p _ (same_new hp _) upd_same⟩
  refine q a H (fun _ _ z => z) ?_
  rw [ha]
  have : cutV xs lo hi = xs := by
    unfold cutV
    rw [e.1, e.2, List.drop_zero, Nat.sub_zero, List.take_length]
  rw [this]
/-! ### things of any kind: numbers, truths, None, texts, tuples, lists, dicts with ints as keys -/
mutual
def wt : PyData → Nat
  | .none => 5
  | .bool _ => 5
  | .int _ => 1921
  | .str x => (reprText x).length + 1
  | .list xs => wts xs + 4
  | .tuple xs => wts xs + 4
  | .dict kvs => wtk kvs + 4
def wts : List PyData → Nat
  | [] => 0
  | x :: xs => wt x + 4 + wts xs
def wtk : List (PyData × PyData) → Nat
  | [] => 0
  | (k, v) :: r => wt k + wt v + 8 + wtk r
end
theorem dicT_len (ts : List Str) : (dictText ts).length ≤ piled ts + 4 := by
  unfold dictText
  rw [strLen_append, strLen_append]
  have e1 : ((("{" : String) : Str)).length = 1 := rfl
  have e3 : ((("}" : String) : Str)).length = 1 := rfl
  by_cases h : ts = []
  · subst h; decide +kernel
  · have := join_length_add ts h; omega
mutual
theorem shown_wt : ∀ d : PyData, d.showable = true → d.shown.length ≤ wt d
  | .none, _ => by show (("None" : String) : Str).length ≤ 5; decide +kernel
  | .bool b, _ => by cases b <;> (show _ ≤ 5; decide +kernel)
  | .int i, h => PyProof.Rows.int_text_len_1921 (of_decide_eq_true (by simpa [PyData.showable] using h))
  | .str x, _ => Nat.le_succ _
  | .list ds, h => by
    have h1 := showns_wt ds (by simpa [PyData.showable] using h)
    have h2 := lstT_len (PyData.shownAll ds)
    show (listText (PyData.shownAll ds)).length ≤ wts ds + 4
    omega
  | .tuple ds, h => by
    have h1 := showns_wt ds (by simpa [PyData.showable] using h)
    have h2 := tupT_len (PyData.shownAll ds)
    show (tupleText (PyData.shownAll ds)).length ≤ wts ds + 4
    omega
  | .dict kvs, h => by
    have h1 := shownk_wt kvs (by simpa [PyData.showable] using h)
    have h2 := dicT_len (PyData.shownKv kvs)
    show (dictText (PyData.shownKv kvs)).length ≤ wtk kvs + 4
    omega
theorem showns_wt : ∀ ds : List PyData, PyData.showableAll ds = true → piled (PyData.shownAll ds) ≤ wts ds
  | [], _ => Nat.le_refl _
  | d :: ds, h => by
    have h1 := shown_wt d (by simp [PyData.showableAll] at h; exact h.1)
    have h2 := showns_wt ds (by simp [PyData.showableAll] at h; exact h.2)
    show piled (d.shown :: PyData.shownAll ds) ≤ _
    rw [piled_cons]
    show _ ≤ wt d + 4 + wts ds
    omega
theorem shownk_wt : ∀ kvs : List (PyData × PyData), PyData.showableKv kvs = true → piled (PyData.shownKv kvs) ≤ wtk kvs
  | [], _ => Nat.le_refl _
  | (k, v) :: r, h => by
    have h0 : (k.showable = true ∧ v.showable = true) ∧ PyData.showableKv r = true := by simpa [PyData.showableKv] using h
    have h1 := shown_wt k h0.1.1
    have h2 := shown_wt v h0.1.2
    have h3 := shownk_wt r h0.2
    show piled ((k.shown ++ ": " ++ v.shown) :: PyData.shownKv r) ≤ _
    rw [piled_cons, strLen_append, strLen_append]
    have e : (((": " : String) : Str)).length = 2 := rfl
    show _ ≤ wt k + wt v + 8 + wtk r
    omega
end
theorem shown_wz {d : PyData} (h : d.showable = true) (c : wt d ≤ 10000000) : d.shown.length ≤ sizeLine := Nat.le_trans (shown_wt d h) (Nat.le_trans c (by decide))
/-- a thing: d stands at v; the list p is no part of it -/
inductive Th (K : PySem.W.Frag) (p : Addr) (H : Hp) : V → PyData → Prop
  | non : Th K p H .non .none
  | bl (b : Bool) : Th K p H (.bl b) (.bool b)
  | int (i : Int) : Th K p H (.int i) (.int i)
  | str (x : Str) : Th K p H (.str x) (.str x)
  | tup {a : Addr} {tr : List (V × PyData)} : H a = some (.tup (tr.map fun t => t.1)) → (∀ t ∈ tr, Th K p H t.1 t.2) → Th K p H (.ref a) (.tuple (tr.map fun t => t.2))
  | lst {a : Addr} {tr : List (V × PyData)} : a ≠ p → a ≠ sysModules → H a = some (.lst (tr.map fun t => t.1)) → (∀ t ∈ tr, Th K p H t.1 t.2) → Th K p H (.ref a) (.list (tr.map fun t => t.2))
  | dct {a : Addr} {tr : List (Int × V × PyData)} : H a = some (.dK (tr.map fun t => (Sum.inl t.1, t.2.1))) → (∀ t ∈ tr, Th K p H t.2.1 t.2.2) → Th K p H (.ref a) (.dict (tr.map fun t => (.int t.1, t.2.2)))
theorem Th.same {K : PySem.W.Frag} {p : Addr} {H H' : Hp} {v : V} {d : PyData} (h : Th K p H v d) (e : Same H H') : Th K p H' v d := by
  induction h with
  | non => exact .non
  | bl b => exact .bl b
  | int i => exact .int i
  | str x => exact .str x
  | tup h1 _ ih => exact .tup (e _ _ h1) ih
  | lst n1 n2 h1 _ ih => exact .lst n1 n2 (e _ _ h1) ih
  | dct h1 _ ih => exact .dct (e _ _ h1) ih
theorem Th.but {K : PySem.W.Frag} {p : Addr} {H H' : Hp} {v : V} {d : PyData} {ys : List V} (h : Th K p H v d) (e : But p H H') (hp : H p = some (.lst ys)) : Th K p H' v d := by
  induction h with
  | non => exact .non
  | bl b => exact .bl b
  | int i => exact .int i
  | str x => exact .str x
  | tup h1 _ ih => exact .tup (e _ _ (ne_of h1 hp (by intro z; cases z)) h1) ih
  | lst n1 n2 h1 _ ih => exact .lst n1 n2 (e _ _ n1 h1) ih
  | dct h1 _ ih => exact .dct (e _ _ (ne_of h1 hp (by intro z; cases z)) h1) ih
/-- the kind of a thing -/
def tyD : PyData → String
  | .none => "NoneType"
  | .bool _ => "bool"
  | .int _ => "int"
  | .str _ => "str"
  | .list _ => "list"
  | .tuple _ => "tuple"
  | .dict _ => "dict"
def isTu : PyData → Bool
  | .tuple _ => true
  | _ => false
def isIn : PyData → Bool
  | .int _ => true
  | .bool _ => true
  | _ => false
def isBl : PyData → Bool
  | .bool _ => true
  | _ => false
def isSt : PyData → Bool
  | .str _ => true
  | _ => false
/-- a whole number -/
def isWh : PyData → Bool
  | .int _ => true
  | _ => false
theorem isWh_eq (d : PyData) : isWh d = (isIn d && !isBl d) := by cases d <;> rfl
theorem Th.ty {K : PySem.W.Frag} {p : Addr} {H : Hp} {v : V} {d : PyData} (h : Th K p H v d) : TyX K H v (.type (tyD d)) := by
  cases h with
  | non => exact .base .non
  | bl b => exact .base (.bl b)
  | int i => exact .base (.int i)
  | str x => exact .base (.str x)
  | tup h1 _ => exact .base (.tup h1)
  | lst _ _ h1 _ => exact .base (.lst h1)
  | dct h1 _ => exact .base (.dK h1)
theorem kit_tu {K : PySem.W.Frag} : ∀ d : PyData, PySem.W.kitOne K (.type (tyD d)) (.type "tuple") = some (isTu d)
  | .none => (kit_ty (by decide +kernel) : PySem.W.kitOne K (.type "NoneType") (.type "tuple") = some false)
  | .bool _ => (kit_ty (by decide +kernel) : PySem.W.kitOne K (.type "bool") (.type "tuple") = some false)
  | .int _ => (kit_ty (by decide +kernel) : PySem.W.kitOne K (.type "int") (.type "tuple") = some false)
  | .str _ => (kit_ty (by decide +kernel) : PySem.W.kitOne K (.type "str") (.type "tuple") = some false)
  | .list _ => (kit_ty (by decide +kernel) : PySem.W.kitOne K (.type "list") (.type "tuple") = some false)
  | .tuple _ => (kit_ty (by decide +kernel) : PySem.W.kitOne K (.type "tuple") (.type "tuple") = some true)
  | .dict _ => (kit_ty (by decide +kernel) : PySem.W.kitOne K (.type "dict") (.type "tuple") = some false)
theorem kit_in {K : PySem.W.Frag} : ∀ d : PyData, PySem.W.kitOne K (.type (tyD d)) (.type "int") = some (isIn d)
  | .none => (kit_ty (by decide +kernel) : PySem.W.kitOne K (.type "NoneType") (.type "int") = some false)
  | .bool _ => (kit_ty (by decide +kernel) : PySem.W.kitOne K (.type "bool") (.type "int") = some true)
  | .int _ => (kit_ty (by decide +kernel) : PySem.W.kitOne K (.type "int") (.type "int") = some true)
  | .str _ => (kit_ty (by decide +kernel) : PySem.W.kitOne K (.type "str") (.type "int") = some false)
  | .list _ => (kit_ty (by decide +kernel) : PySem.W.kitOne K (.type "list") (.type "int") = some false)
  | .tuple _ => (kit_ty (by decide +kernel) : PySem.W.kitOne K (.type "tuple") (.type "int") = some false)
  | .dict _ => (kit_ty (by decide +kernel) : PySem.W.kitOne K (.type "dict") (.type "int") = some false)
theorem kit_bl {K : PySem.W.Frag} : ∀ d : PyData, PySem.W.kitOne K (.type (tyD d)) (.type "bool") = some (isBl d)
  | .none => (kit_ty (by decide +kernel) : PySem.W.kitOne K (.type "NoneType") (.type "bool") = some false)
  | .bool _ => (kit_ty (by decide +kernel) : PySem.W.kitOne K (.type "bool") (.type "bool") = some true)
  | .int _ => (kit_ty (by decide +kernel) : PySem.W.kitOne K (.type "int") (.type "bool") = some false)
  | .str _ => (kit_ty (by decide +kernel) : PySem.W.kitOne K (.type "str") (.type "bool") = some false)
  | .list _ => (kit_ty (by decide +kernel) : PySem.W.kitOne K (.type "list") (.type "bool") = some false)
  | .tuple _ => (kit_ty (by decide +kernel) : PySem.W.kitOne K (.type "tuple") (.type "bool") = some false)
  | .dict _ => (kit_ty (by decide +kernel) : PySem.W.kitOne K (.type "dict") (.type "bool") = some false)
theorem kit_st {K : PySem.W.Frag} : ∀ d : PyData, PySem.W.kitOne K (.type (tyD d)) (.type "str") = some (isSt d)
  | .none => (kit_ty (by decide +kernel) : PySem.W.kitOne K (.type "NoneType") (.type "str") = some false)
  | .bool _ => (kit_ty (by decide +kernel) : PySem.W.kitOne K (.type "bool") (.type "str") = some false)
  | .int _ => (kit_ty (by decide +kernel) : PySem.W.kitOne K (.type "int") (.type "str") = some false)
  | .str _ => (kit_ty (by decide +kernel) : PySem.W.kitOne K (.type "str") (.type "str") = some true)
  | .list _ => (kit_ty (by decide +kernel) : PySem.W.kitOne K (.type "list") (.type "str") = some false)
  | .tuple _ => (kit_ty (by decide +kernel) : PySem.W.kitOne K (.type "tuple") (.type "str") = some false)
  | .dict _ => (kit_ty (by decide +kernel) : PySem.W.kitOne K (.type "dict") (.type "str") = some false)
theorem Th.tup_inv {K : PySem.W.Frag} {p : Addr} {H : Hp} {v : V} {ds : List PyData} (h : Th K p H v (.tuple ds)) : ∃ (a : Addr) (tr : List (V × PyData)), v = .ref a ∧ ds = (tr.map fun t => t.2) ∧ H a = some (.tup (tr.map fun t => t.1)) ∧ ∀ t ∈ tr, Th K p H t.1 t.2 := by
  cases h with
  | @tup a tr h1 h2 => exact ⟨a, tr, rfl, rfl, h1, h2⟩
theorem Th.int_inv {K : PySem.W.Frag} {p : Addr} {H : Hp} {v : V} {i : Int} (h : Th K p H v (.int i)) : v = .int i := by cases h; rfl
theorem isTu_inv {d : PyData} (h : isTu d = true) : ∃ ds, d = .tuple ds := by cases d <;> first | exact ⟨_, rfl⟩ | cases h
theorem isWh_inv {d : PyData} (h : isWh d = true) : ∃ i, d = .int i := by cases d <;> first | exact ⟨_, rfl⟩ | cases h
/-! a thing, shown -/
theorem reads_all {h : Heap} : ∀ {tr : List (V × PyData)} {us : List Value}, Vals (tr.map fun t => t.1) us → (∀ t ∈ tr, ∀ u, RelV t.1 u → ∃ as, Reads h u t.2 as ∧ sysModules ∉ as) → ∃ as, ReadsAll h us (tr.map fun t => t.2) as ∧ sysModules ∉ as
  | [], _, .nil, _ => ⟨_, .nil, List.not_mem_nil⟩
  | t :: tr, _, .cons r rs, ih => by
    obtain ⟨as, h1, h2⟩ := ih t List.mem_cons_self _ r
    obtain ⟨bs, h3, h4⟩ := reads_all rs fun x hx => ih x (List.mem_cons_of_mem _ hx)
    exact ⟨_, .cons h1 h3, fun z => (List.mem_append.mp z).elim h2 h4⟩
theorem reads_dct {P : Program} {w : World} {h : Heap} : ∀ {tr : List (Int × V × PyData)} {vs : List (Key × Value)} {es : List DictEntry}, KV (tr.map fun t => ((Sum.inl t.1 : Key), t.2.1)) vs → Pairs (mixKind P w) es vs → (∀ t ∈ tr, ∀ u, RelV t.2.1 u → ∃ as, Reads h u t.2.2 as ∧ sysModules ∉ as) →
    ∃ as bs, ReadsAll h (es.map fun e => e.key) (tr.map fun t => PyData.int t.1) as ∧ ReadsAll h (es.map fun e => e.val) (tr.map fun t => t.2.2) bs ∧ sysModules ∉ as ∧ sysModules ∉ bs
  | [], _, _, .nil, .nil, _ => ⟨_, _, .nil, .nil, List.not_mem_nil, List.not_mem_nil⟩
  | t :: tr, _, _, .cons k ks, .cons e1 e2 es, ih => by
    obtain ⟨as, h1, h2⟩ := ih t List.mem_cons_self _ k.2
    obtain ⟨cs, bs, h3, h4, h5, h6⟩ := reads_dct ks es fun x hx => ih x (List.mem_cons_of_mem _ hx)
    have e1' := e1
    rw [← k.1] at e1'
    have e3 : keyIs (Sum.inl t.1) _ = true := e1'
    rcases keyIs_shape e3 with ⟨i, tk, ei, ek⟩ | ⟨x, tk, ei, _⟩
    · cases ei
      rw [← e2] at h1
      exact ⟨[] ++ cs, as ++ bs, .cons (by show Reads h _ (.int t.1) []; dsimp only; rw [ek]; exact Reads.int t.1 tk) h3, .cons h1 h4, h5, fun z => (List.mem_append.mp z).elim h2 h6⟩
    · cases ei
theorem Th.reads {X : Cx} {pins : List (Addr × Obj)} {σ : L2.St} {p : Addr} {H : Hp} {s : Shared} (I : Inv X pins σ H s) {v : V} {d : PyData} (h : Th X.K p H v d) : ∀ u, RelV v u → ∃ as, Reads s.heap u d as ∧ sysModules ∉ as := by
  induction h with
  | non => intro u r; cases r; exact ⟨_, .none, List.not_mem_nil⟩
  | bl b => intro u r; cases r; exact ⟨_, .bool b, List.not_mem_nil⟩
  | int i => intro u r; obtain ⟨t, rfl⟩ := r; exact ⟨_, .int i t, List.not_mem_nil⟩
  | str x => intro u r; obtain ⟨t, rfl⟩ := r; exact ⟨_, .str x t, List.not_mem_nil⟩
  | @tup a tr h1 _ ih =>
    intro u r
    cases r
    obtain ⟨its, rv, ⟨o, ho, hc, n, hd⟩, _⟩ := I.tuple (SqT.of h1)
    obtain ⟨as, h2, h3⟩ := reads_all rv ih
    exact ⟨_, .tuple ho hc hd h2, h3⟩
  | @lst a tr n1 n2 h1 _ ih =>
    intro u r
    cases r
    obtain ⟨its, rv, ⟨o, n, ho, hc, _, hd⟩, _⟩ := I.list (SqL.of h1)
    obtain ⟨as, h2, h3⟩ := reads_all rv ih
    exact ⟨_, .list ho hc hd h2, fun z => (List.mem_cons.mp z).elim (fun q => n2 q.symm) h3⟩
  | @dct a tr h1 _ ih =>
    intro u r
    cases r
    obtain ⟨_, hs, vs, kv, o, es, ep, ho, hx, hd, _, pr, _⟩ := dk_of I.hok h1
    obtain ⟨as, bs, h2, h3, h4, h5⟩ := reads_dct kv pr ih
    refine ⟨a :: as ++ bs, .dict (kvs := tr.map fun t => (PyData.int t.1, t.2.2)) ho hx.1 hd (by rw [List.map_map]; exact h2) (by rw [List.map_map]; exact h3), fun z => ?_⟩
    rcases List.mem_append.mp z with z | z
    · rcases List.mem_cons.mp z with z | z
      · rw [← z] at hs; cases hs
      · exact h4 z
    · exact h5 z
def rReprO (K : PySem.W.Frag) : List V → Hp → VK → Prop := fun xs H Q => ∃ (x : V) (d : PyData) (p : Addr), xs = [x] ∧ Th K p H x d ∧ d.showable = true ∧ d.depth ≤ 60 ∧ d.shown.length ≤ sizeLine ∧ Q (.str d.shown) H
theorem reprO {X : Cx} {k : Nat} {K : PySem.W.Frag} (hr : RoomG k X.A) (eK : X.K = K := by rfl) : CallR X (.builtin "repr") (rReprO K) := by
  cases eK
  intro pins s σ H xs us Q I r h
  obtain ⟨x, d, p, rfl, hd, hs, hdep, hz, q⟩ := h
  obtain ⟨u, rfl, rx⟩ := vals1 r
  obtain ⟨as, rd, na⟩ := Th.reads I hd u rx
  have hu := hr.units
  cases hd with
  | non => cases rx; exact PySem.P.repr_of_none ⟨.str _, H, I.tok _, ⟨_, rfl⟩, q⟩
  | bl b => cases rx; exact PySem.P.repr_of_bool ⟨.str _, H, I.tok _, ⟨_, rfl⟩, q⟩
  | int i => obtain ⟨t, rfl⟩ := rx; exact PySem.P.repr_of_int (of_decide_eq_true (by simpa [PyData.showable] using hs)) ⟨.str _, H, I.tok _, ⟨_, rfl⟩, q⟩
  | str z => obtain ⟨t, rfl⟩ := rx; exact PySem.P.repr_of_str ⟨.str _, H, I.tok _, ⟨_, rfl⟩, q⟩ hz
  | tup _ _ =>
    cases rx
    exact repr_of_reads' rd hs (fun _ => na) hr.idle (by omega) (fun _ _ z => z) (fun h' u tk hk => ⟨.str _, H, I.kept hk, ⟨_, rfl⟩, q⟩) hz
  | lst _ _ _ _ =>
    cases rx
    exact repr_of_reads' rd hs (fun _ => na) hr.idle (by omega) (fun _ _ z => z) (fun h' u tk hk => ⟨.str _, H, I.kept hk, ⟨_, rfl⟩, q⟩) hz
  | dct _ _ =>
    cases rx
    exact repr_of_reads' rd hs (fun _ => na) hr.idle (by omega) (fun _ _ z => z) (fun h' u tk hk => ⟨.str _, H, I.kept hk, ⟨_, rfl⟩, q⟩) hz
/-! lists that may be parts of things -/
def tLstS (t : TA) : TE := fun σ H Q => t σ H fun xs H1 => xs.length ≤ sizeLine ∧ ∀ p, H1 p = none → p ≠ sysModules → Q (.ref p) (upd H1 p (.lst xs))
theorem pe_lstS {X : Cx} {es : List Expr} {t : TA} {pos : Pos} (h : PA X es t) : PE X (.List es pos) (tLstS t) := by
  refine ⟨fun pins s σ H Q I hq => ?_⟩
  refine wpAny_List_spliced (thn (h.run pos pins s σ H _ I hq) fun us s1 ⟨xs, H1, I1, r, z, q⟩ => ⟨by rw [← r.length]; exact z, ?_⟩)
  have hn : H1 s1.heap.objs.size = none := I1.hok.fresh (Nat.le_refl _)
  exact ⟨.ref s1.heap.objs.size, upd H1 s1.heap.objs.size (.lst xs), I1.laid (t' := s1.toks) (fun b u e => Heap.get?_push_of_some _ e) (Nat.le_refl _) ⟨z, us, 0, r, Heap.get?_push_size _ rfl⟩, rfl, q _ hn (Nat.ne_of_gt I1.big)⟩
def rLstOfS (K : PySem.W.Frag) : List V → Hp → VK → Prop := fun xs H Q => ∃ p ys, xs = [.ref p] ∧ (SqL K H p ys ∨ SqT K H p ys) ∧ ∀ l, H l = none → l ≠ sysModules → Q (.ref l) (upd H l (.lst ys))
theorem lstOfS {X : Cx} {K : PySem.W.Frag} (eK : X.K = K := by rfl) : CallR X (.type "list") (rLstOfS K) := by
  cases eK
  intro pins s σ H xs us Q I r h
  obtain ⟨p, ys, rfl, hq, q⟩ := h
  obtain ⟨u, rfl, rx⟩ := vals1 r
  cases rx
  have fin : ∀ (its : List Value), Vals ys its → ys.length ≤ sizeLine → ∀ (h' : Heap) (c' : Nat), (∀ b o', s.heap.get? b = some o' → h'.get? b = some o') →
      h'.get? s.heap.objs.size = some { cls := .type "list", dict := none, data := .seq its.toArray c', slots := #[] } → EP X pins σ Q (.ref s.heap.objs.size) { s with heap := h' } := fun its r' hz h' c' kp e =>
    ⟨.ref s.heap.objs.size, _, I.laid (t' := s.toks) kp (Nat.le_refl _) (show ObjOk X.prog X.w _ h' _ (.lst ys) from ⟨hz, its, c', r', e⟩), rfl, q _ (I.hok.fresh (Nat.le_refl _)) (Nat.ne_of_gt I.big)⟩
  rcases hq with hq | hq
  · obtain ⟨its, r', pl, hz⟩ := I.list hq
    have hlen := r'.length
    obtain ⟨o, ho, hc, n, hd⟩ := pl.isList
    exact call_list_seq p (.inl rfl) ho hc hd (fun h' c' kp e => fin its r' hz h' c' kp e) (by simp only [List.size_toArray] <;> omega)
  · obtain ⟨its, r', pl, hz⟩ := I.tuple hq
    have hlen := r'.length
    obtain ⟨o, ho, hc, n, hd⟩ := pl
    exact call_list_seq p (.inr rfl) ho hc hd (fun h' c' kp e => fin its r' hz h' c' kp e) (by simp only [List.size_toArray] <;> omega)
/-! ### lists of things beside [] (wants odd0) -/
def rNeNil (K : PySem.W.Frag) : R2 := fun x y H Q => ∃ a b ys, x = .ref a ∧ y = .ref b ∧ SqL K H a ys ∧ SqL K H b [] ∧ Q (.bl (!ys.isEmpty)) H
def rEqNil (K : PySem.W.Frag) : R2 := fun x y H Q => ∃ a b ys, x = .ref a ∧ y = .ref b ∧ SqL K H a ys ∧ SqL K H b [] ∧ Q (.bl ys.isEmpty) H
theorem op_neNil {X : Cx} {K : PySem.W.Frag} (hu : X.A.units + 64 < cLine) (eK : X.K = K := by rfl) : OpR X (compareOp .NotEq) (rNeNil K) := by
  cases eK
  intro pins s σ H x y v u Q I rx ry h
  obtain ⟨a, b, ys, rfl, rfl, ha, hb, q⟩ := h
  cases rx
  cases ry
  obtain ⟨its, rv, hl, _⟩ := I.list ha
  obtain ⟨its2, rv2, hl2, _⟩ := I.list hb
  cases rv2
  cases rv with
  | nil => exact SeqAt.RcNeAt.lists (e := fun _ => true) hl.isList hl2.isList rfl (by omega) (fun j h1 h2 => absurd h1 (Nat.not_lt_zero _)) _ _ _ _ ⟨.bl _, H, I, rfl, q⟩
  | cons r rs => exact SeqAt.RcNeAt.lists_lengths hl.isList hl2.isList (by simp) (by omega) _ _ _ _ ⟨.bl _, H, I, rfl, q⟩
theorem op_eqNil {X : Cx} {K : PySem.W.Frag} (hu : X.A.units + 64 < cLine) (eK : X.K = K := by rfl) : OpR X (compareOp .Eq) (rEqNil K) := by
  cases eK
  intro pins s σ H x y v u Q I rx ry h
  obtain ⟨a, b, ys, rfl, rfl, ha, hb, q⟩ := h
  cases rx
  cases ry
  obtain ⟨its, rv, hl, _⟩ := I.list ha
  obtain ⟨its2, rv2, hl2, _⟩ := I.list hb
  cases rv2
  cases rv with
  | nil => exact SeqAt.RcAt.lists (e := fun _ => true) hl.isList hl2.isList rfl (by omega) (fun j h1 h2 => absurd h1 (Nat.not_lt_zero _)) _ _ _ _ ⟨.bl _, H, I, rfl, q⟩
  | cons r rs => exact SeqAt.RcAt.lists_lengths hl.isList hl2.isList (by simp) (by omega) _ _ _ _ ⟨.bl _, H, I, rfl, q⟩
/-! sizes of things -/
mutual
/-- the greatest number in a thing, by its amount -/
def ib : PyData → Nat
  | .int i => i.natAbs
  | .list xs => ibs xs
  | .tuple xs => ibs xs
  | .dict kvs => ibk kvs
  | _ => 0
def ibs : List PyData → Nat
  | [] => 0
  | x :: xs => max (ib x) (ibs xs)
def ibk : List (PyData × PyData) → Nat
  | [] => 0
  | (k, v) :: r => max (max (ib k) (ib v)) (ibk r)
end
mutual
theorem ib_sh : ∀ d : PyData, ib d ≤ 10 ^ 100 → d.showable = true
  | .none, _ => rfl
  | .bool _, _ => rfl
  | .str _, _ => rfl
  | .int i, h => by
    have h : i.natAbs ≤ 10 ^ 100 := h
    have : i.natAbs.log2 < 1920 := log_lt (by decide) (Nat.lt_of_le_of_lt h (by decide))
    simpa [PyData.showable] using this
  | .list xs, h => ibs_sh xs h
  | .tuple xs, h => ibs_sh xs h
  | .dict kvs, h => ibk_sh kvs h
theorem ibs_sh : ∀ xs : List PyData, ibs xs ≤ 10 ^ 100 → PyData.showableAll xs = true
  | [], _ => rfl
  | x :: xs, h => by
    have h : max (ib x) (ibs xs) ≤ 10 ^ 100 := h
    have h1 := ib_sh x (Nat.le_trans (Nat.le_max_left _ _) h)
    have h2 := ibs_sh xs (Nat.le_trans (Nat.le_max_right _ _) h)
    simp only [PyData.showableAll, h1, h2, Bool.and_self]
theorem ibk_sh : ∀ kvs : List (PyData × PyData), ibk kvs ≤ 10 ^ 100 → PyData.showableKv kvs = true
  | [], _ => rfl
  | (k, v) :: r, h => by
    have h : max (max (ib k) (ib v)) (ibk r) ≤ 10 ^ 100 := h
    have h1 := ib_sh k (Nat.le_trans (Nat.le_trans (Nat.le_max_left _ _) (Nat.le_max_left _ _)) h)
    have h2 := ib_sh v (Nat.le_trans (Nat.le_trans (Nat.le_max_right _ _) (Nat.le_max_left _ _)) h)
    have h3 := ibk_sh r (Nat.le_trans (Nat.le_max_right _ _) h)
    simp only [PyData.showableKv, h1, h2, h3, Bool.and_self]
end
/-- depth, length when shown, greatest number -/
structure Wg (d : PyData) (n c b : Nat) : Prop where
  dep : d.depth ≤ n
  len : wt d ≤ c
  big : ib d ≤ b
theorem Wg.mono {d : PyData} {n c b n' c' b' : Nat} (w : Wg d n c b) (h1 : n ≤ n') (h2 : c ≤ c') (h3 : b ≤ b') : Wg d n' c' b' := ⟨Nat.le_trans w.dep h1, Nat.le_trans w.len h2, Nat.le_trans w.big h3⟩
structure Wgs (ds : List PyData) (n c b : Nat) : Prop where
  dep : PyData.depthAll ds ≤ n
  len : wts ds ≤ c
  big : ibs ds ≤ b
theorem Wgs.nil {n c b : Nat} : Wgs [] n c b := ⟨Nat.zero_le _, Nat.zero_le _, Nat.zero_le _⟩
theorem Wgs.cons {d : PyData} {ds : List PyData} {n c c' b : Nat} (h : Wg d n c b) (t : Wgs ds n c' b) : Wgs (d :: ds) n (c + 4 + c') b :=
  ⟨by show max d.depth (PyData.depthAll ds) ≤ n; have := h.dep; have := t.dep; omega, by show wt d + 4 + wts ds ≤ _; have := h.len; have := t.len; omega, by show max (ib d) (ibs ds) ≤ b; have := h.big; have := t.big; omega⟩
theorem wts_app : ∀ (xs ys : List PyData), wts (xs ++ ys) = wts xs + wts ys
  | [], ys => by show wts ys = 0 + wts ys; omega
  | x :: xs, ys => by show wt x + 4 + wts (xs ++ ys) = wt x + 4 + wts xs + wts ys; rw [wts_app xs ys]; omega
theorem ibs_app : ∀ (xs ys : List PyData), ibs (xs ++ ys) = max (ibs xs) (ibs ys)
  | [], ys => by show ibs ys = max 0 (ibs ys); omega
  | x :: xs, ys => by show max (ib x) (ibs (xs ++ ys)) = max (max (ib x) (ibs xs)) (ibs ys); rw [ibs_app xs ys]; omega
theorem dps_app : ∀ (xs ys : List PyData), PyData.depthAll (xs ++ ys) = max (PyData.depthAll xs) (PyData.depthAll ys)
  | [], ys => by show PyData.depthAll ys = max 0 _; omega
  | x :: xs, ys => by show max x.depth (PyData.depthAll (xs ++ ys)) = max (max x.depth (PyData.depthAll xs)) _; rw [dps_app xs ys]; omega
theorem Wgs.app {xs ys : List PyData} {n c c' b : Nat} (h : Wgs xs n c b) (t : Wgs ys n c' b) : Wgs (xs ++ ys) n (c + c') b :=
  ⟨by rw [dps_app]; have := h.dep; have := t.dep; omega, by rw [wts_app]; have := h.len; have := t.len; omega, by rw [ibs_app]; have := h.big; have := t.big; omega⟩
theorem Wgs.sub {xs ys : List PyData} {n c b : Nat} (h : Wgs (xs ++ ys) n c b) : Wgs xs n c b ∧ Wgs ys n c b := by
  have h1 := h.dep
  have h2 := h.len
  have h3 := h.big
  rw [dps_app] at h1
  rw [wts_app] at h2
  rw [ibs_app] at h3
  exact ⟨⟨by omega, by omega, by omega⟩, ⟨by omega, by omega, by omega⟩⟩
theorem Wgs.mono {ds : List PyData} {n c b n' c' b' : Nat} (w : Wgs ds n c b) (h1 : n ≤ n') (h2 : c ≤ c') (h3 : b ≤ b') : Wgs ds n' c' b' := ⟨Nat.le_trans w.dep h1, Nat.le_trans w.len h2, Nat.le_trans w.big h3⟩
theorem Wg.tup {ds : List PyData} {n c b : Nat} (h : Wgs ds n c b) : Wg (.tuple ds) (n + 1) (c + 4) b := ⟨by show PyData.depthAll ds + 1 ≤ n + 1; have := h.dep; omega, by show wts ds + 4 ≤ c + 4; have := h.len; omega, h.big⟩
theorem Wg.lst {ds : List PyData} {n c b : Nat} (h : Wgs ds n c b) : Wg (.list ds) (n + 1) (c + 4) b := ⟨by show PyData.depthAll ds + 1 ≤ n + 1; have := h.dep; omega, by show wts ds + 4 ≤ c + 4; have := h.len; omega, h.big⟩
theorem Wg.untup {ds : List PyData} {n c b : Nat} (h : Wg (.tuple ds) n c b) : Wgs ds (n - 1) (c - 4) b := ⟨by have : PyData.depthAll ds + 1 ≤ n := h.dep; omega, by have : wts ds + 4 ≤ c := h.len; omega, h.big⟩
theorem Wgs.mem {ds : List PyData} {n c b : Nat} (h : Wgs ds n c b) {d : PyData} (hd : d ∈ ds) : Wg d n c b := by
  obtain ⟨xs, ys, rfl⟩ := List.append_of_mem hd
  have h2 := (h.sub).2
  refine ⟨?_, ?_, ?_⟩
  · have : max d.depth (PyData.depthAll ys) ≤ n := h2.dep
    omega
  · have : wt d + 4 + wts ys ≤ c := h2.len
    omega
  · have : max (ib d) (ibs ys) ≤ b := h2.big
    omega
theorem Wg.shw {d : PyData} {n c b : Nat} (w : Wg d n c b) (hb : b ≤ 10 ^ 100 := by decide) : d.showable = true := ib_sh d (Nat.le_trans w.big hb)
theorem Wg.sz {d : PyData} {n c b : Nat} (w : Wg d n c b) (hb : b ≤ 10 ^ 100 := by decide) (hc : c ≤ 10000000 := by decide) : d.shown.length ≤ sizeLine := shown_wz (w.shw hb) (Nat.le_trans w.len hc)
theorem ofS_cps (s : String) : ∀ c ∈ (Str.ofString s).cps.toList, c < 16 ^ 8 := by
  intro c hc
  rw [Str.ofString_eq_toList] at hc
  have hc : c ∈ s.toList.map Char.toNat := by simpa using hc
  obtain ⟨ch, _, rfl⟩ := List.mem_map.mp hc
  exact Nat.lt_of_lt_of_le ch.val.toBitVec.isLt (by decide : 2 ^ 32 ≤ 16 ^ 8)
theorem strI_wt (i : Int) (h : i.natAbs ≤ 10 ^ 100) : wt (.str (toString i)) ≤ 20000 := by
  have h0 : i.natAbs.log2 < 1920 := log_lt (by decide) (Nat.lt_of_le_of_lt h (by decide))
  have h1 := PyProof.Rows.int_text_len_1921 h0
  have h2 := StrLaws.reprText_len (toString i : String) (ofS_cps _)
  show (reprText (toString i : String)).length + 1 ≤ 20000
  omega
/-! ### things whose lists are none of some (wants odd0) -/
inductive ThL (K : PySem.W.Frag) (S : Addr → Prop) (H : Hp) : V → PyData → Prop
  | non : ThL K S H .non .none
  | bl (b : Bool) : ThL K S H (.bl b) (.bool b)
  | int (i : Int) : ThL K S H (.int i) (.int i)
  | str (x : Str) : ThL K S H (.str x) (.str x)
  | tup {a : Addr} {tr : List (V × PyData)} : H a = some (.tup (tr.map fun t => t.1)) → (∀ t ∈ tr, ThL K S H t.1 t.2) → ThL K S H (.ref a) (.tuple (tr.map fun t => t.2))
  | lst {a : Addr} {tr : List (V × PyData)} : ¬ S a → a ≠ sysModules → H a = some (.lst (tr.map fun t => t.1)) → (∀ t ∈ tr, ThL K S H t.1 t.2) → ThL K S H (.ref a) (.list (tr.map fun t => t.2))
  | dct {a : Addr} {tr : List (Int × V × PyData)} : H a = some (.dK (tr.map fun t => (Sum.inl t.1, t.2.1))) → (∀ t ∈ tr, ThL K S H t.2.1 t.2.2) → ThL K S H (.ref a) (.dict (tr.map fun t => (.int t.1, t.2.2)))
theorem ThL.th {K : PySem.W.Frag} {S : Addr → Prop} {p : Addr} {H : Hp} {v : V} {d : PyData} (h : ThL K S H v d) (hp : S p) : Th K p H v d := by
  induction h with
  | non => exact .non
  | bl b => exact .bl b
  | int i => exact .int i
  | str x => exact .str x
  | tup h1 _ ih => exact .tup h1 ih
  | lst n1 n2 h1 _ ih => exact .lst (fun z => n1 (z ▸ hp)) n2 h1 ih
  | dct h1 _ ih => exact .dct h1 ih
theorem ThL.same {K : PySem.W.Frag} {S : Addr → Prop} {H H' : Hp} {v : V} {d : PyData} (h : ThL K S H v d) (e : Same H H') : ThL K S H' v d := by
  induction h with
  | non => exact .non
  | bl b => exact .bl b
  | int i => exact .int i
  | str x => exact .str x
  | tup h1 _ ih => exact .tup (e _ _ h1) ih
  | lst n1 n2 h1 _ ih => exact .lst n1 n2 (e _ _ h1) ih
  | dct h1 _ ih => exact .dct (e _ _ h1) ih
/-- tuples, dicts and other lists stay -/
theorem ThL.keep {K : PySem.W.Frag} {S : Addr → Prop} {H H' : Hp} {v : V} {d : PyData} (h : ThL K S H v d) (e1 : ∀ a xs, H a = some (.tup xs) → H' a = some (.tup xs)) (e2 : ∀ a xs, ¬ S a → H a = some (.lst xs) → H' a = some (.lst xs)) (e3 : ∀ a kvs, H a = some (.dK kvs) → H' a = some (.dK kvs)) : ThL K S H' v d := by
  induction h with
  | non => exact .non
  | bl b => exact .bl b
  | int i => exact .int i
  | str x => exact .str x
  | tup h1 _ ih => exact .tup (e1 _ _ h1) ih
  | lst n1 n2 h1 _ ih => exact .lst n1 n2 (e2 _ _ n1 h1) ih
  | dct h1 _ ih => exact .dct (e3 _ _ h1) ih
theorem ThL.but {K : PySem.W.Frag} {S : Addr → Prop} {p : Addr} {H H' : Hp} {v : V} {d : PyData} {ys : List V} (h : ThL K S H v d) (hs : S p) (e : But p H H') (hp : H p = some (.lst ys)) : ThL K S H' v d :=
  h.keep (fun a xs h1 => e _ _ (ne_of h1 hp (by intro z; cases z)) h1) (fun a xs n h1 => e _ _ (fun z => n (z ▸ hs)) h1) (fun a kvs h1 => e _ _ (ne_of h1 hp (by intro z; cases z)) h1)
theorem ThL.mono {K : PySem.W.Frag} {S T : Addr → Prop} {H : Hp} {v : V} {d : PyData} (h : ThL K S H v d) (e : ∀ a, T a → S a) : ThL K T H v d := by
  induction h with
  | non => exact .non
  | bl b => exact .bl b
  | int i => exact .int i
  | str x => exact .str x
  | tup h1 _ ih => exact .tup h1 ih
  | lst n1 n2 h1 _ ih => exact .lst (fun z => n1 (e _ z)) n2 h1 ih
  | dct h1 _ ih => exact .dct h1 ih
/-! ### trees of things: plain law (wants odd1) -/
mutual
/-- the leaves from left to right; None where a tuple is none of two -/
def lv : PyData → List PyData
  | .tuple ds => (match lvs ds with | [a, b] => a ++ b | _ => [.none])
  | .none => [.none]
  | .bool b => [.bool b]
  | .int i => [.int i]
  | .str s => [.str s]
  | .list xs => [.list xs]
  | .dict k => [.dict k]
def lvs : List PyData → List (List PyData)
  | [] => []
  | x :: r => lv x :: lvs r
end
theorem lvs_len : ∀ ds : List PyData, (lvs ds).length = ds.length
  | [] => rfl
  | _ :: r => congrArg (· + 1) (lvs_len r)
theorem lv_two (x y : PyData) : lv (.tuple [x, y]) = lv x ++ lv y := rfl
theorem lv_not {ds : List PyData} (h : ds.length ≠ 2) : lv (.tuple ds) = [.none] := by
  show (match lvs ds with | [a, b] => a ++ b | _ => [.none]) = [.none]
  have := lvs_len ds
  match e : lvs ds with
  | [] => rfl
  | [_] => rfl
  | [a, b] => rw [e] at this; exact absurd this.symm h
  | _ :: _ :: _ :: _ => rfl
theorem lv_leaf {d : PyData} (h : isTu d = false) : lv d = [d] := by cases d <;> first | rfl | cases h
mutual
def nsz : PyData → Nat
  | .tuple ds => 1 + nszs ds
  | _ => 1
def nszs : List PyData → Nat
  | [] => 0
  | x :: r => nsz x + nszs r
end
mutual
theorem nsz_wt : ∀ d : PyData, nsz d ≤ wt d
  | .none => by show 1 ≤ 5; decide
  | .bool _ => by show 1 ≤ 5; decide
  | .int _ => by show 1 ≤ 1921; decide
  | .str x => Nat.le_add_left 1 _
  | .list xs => by show 1 ≤ wts xs + 4; omega
  | .dict k => by show 1 ≤ wtk k + 4; omega
  | .tuple ds => by
    have := nszs_wt ds
    show 1 + nszs ds ≤ wts ds + 4
    omega
theorem nszs_wt : ∀ ds : List PyData, nszs ds ≤ wts ds
  | [] => Nat.zero_le _
  | x :: r => by
    have h1 := nsz_wt x
    have h2 := nszs_wt r
    show nsz x + nszs r ≤ wt x + 4 + wts r
    omega
end
theorem nsz_pos : ∀ d : PyData, 1 ≤ nsz d
  | .none => Nat.le_refl _
  | .bool _ => Nat.le_refl _
  | .int _ => Nat.le_refl _
  | .str _ => Nat.le_refl _
  | .list _ => Nat.le_refl _
  | .dict _ => Nat.le_refl _
  | .tuple _ => Nat.le_add_right _ _
theorem nszs_len : ∀ ds : List PyData, ds.length ≤ nszs ds
  | [] => Nat.le_refl _
  | x :: r => by
    have h1 := nsz_pos x
    have h2 := nszs_len r
    show r.length + 1 ≤ nsz x + nszs r
    omega
mutual
theorem lv_nsz : ∀ d : PyData, (lv d).length ≤ nsz d
  | .none => Nat.le_refl _
  | .bool _ => Nat.le_refl _
  | .int _ => Nat.le_refl _
  | .str _ => Nat.le_refl _
  | .list _ => Nat.le_refl _
  | .dict _ => Nat.le_refl _
  | .tuple ds => by
    by_cases h : ds.length = 2
    · match ds, h with
      | [x, y], _ =>
        rw [lv_two, List.length_append]
        have h1 := lv_nsz x
        have h2 := lv_nsz y
        show _ ≤ 1 + (nsz x + (nsz y + 0))
        omega
    · rw [lv_not h]
      exact Nat.le_add_right _ _
end
def wv : PyData → Int
  | .int i => i
  | _ => -1
def isT (d : PyData) (m : Nat) : Bool := (lv d).all isWh && decide ((lv d).map wv = (List.range m).map fun n : Nat => (n : Int))
def ris (c : Nat) : List PyData := (List.range c).map fun n : Nat => PyData.int (n : Int)
theorem ris_wh (c : Nat) : (ris c).all isWh = true := by
  unfold ris
  rw [List.all_eq_true]
  intro x hx
  obtain ⟨n, _, rfl⟩ := List.mem_map.mp hx
  rfl
theorem ris_wv (c : Nat) : (ris c).map wv = (List.range c).map fun n : Nat => (n : Int) := by unfold ris; rw [List.map_map] <;> rfl
theorem isT_end {d : PyData} {c m : Nat} (h : lv d = ris c) : isT d m = decide (c = m) := by
  unfold isT
  rw [h, ris_wh, ris_wv, Bool.true_and]
  by_cases e : c = m
  · subst e
    rw [decide_eq_true rfl, decide_eq_true rfl]
  · rw [decide_eq_false e, decide_eq_false]
    intro z
    have := congrArg List.length z
    rw [List.length_map, List.length_map, List.length_range, List.length_range] at this
    exact e this
theorem isT_no {d e : PyData} {r : List PyData} {c m : Nat} (h : lv d = ris c ++ e :: r) (he : isWh e = false ∨ wv e ≠ (c : Int)) : isT d m = false := by
  unfold isT
  rw [h]
  rcases he with he | he
  · rw [List.all_append, List.all_cons, he, Bool.false_and, Bool.and_false, Bool.false_and]
  · rw [decide_eq_false, Bool.and_false]
    intro z
    have h1 : ((ris c ++ e :: r).map wv)[c]? = some (wv e) := by
      have lc : (ris c).length = c := by unfold ris; rw [List.length_map, List.length_range]
      rw [List.getElem?_map, List.getElem?_append_right (by omega), lc, Nat.sub_self] <;> rfl
    rw [z, List.getElem?_map] at h1
    by_cases cm : c < m
    · rw [List.getElem?_range cm] at h1
      exact he (Option.some.inj h1).symm
    · rw [List.getElem?_eq_none (by rw [List.length_range]; omega)] at h1
      cases h1
theorem ris_succ (c : Nat) : ris (c + 1) = ris c ++ [.int (c : Nat)] := by unfold ris; rw [List.range_succ, List.map_append] <;> rfl
def szV (ts : List (V × PyData)) : Nat := nszs (ts.map fun t => t.2)
/-! ### numbers within bounds, as things (wants odd0) -/
def isR (d : PyData) (a b : Int) : Bool := match d with
  | .int i => decide (a ≤ i) && decide (i ≤ b)
  | _ => false
def isF (d : PyData) (a : Int) : Bool := match d with
  | .int i => decide (a ≤ i)
  | _ => false
theorem isR_no {d : PyData} {a b : Int} (h : isWh d = false) : isR d a b = false := by cases d <;> first | rfl | cases h
theorem isF_no {d : PyData} {a : Int} (h : isWh d = false) : isF d a = false := by cases d <;> first | rfl | cases h
theorem isR_inv {d : PyData} {a b : Int} (h : isR d a b = true) : ∃ i, d = .int i ∧ a ≤ i ∧ i ≤ b := by
  cases d with
  | int i =>
    have h : (decide (a ≤ i) && decide (i ≤ b)) = true := h
    rw [Bool.and_eq_true, decide_eq_true_iff, decide_eq_true_iff] at h
    exact ⟨i, rfl, h.1, h.2⟩
  | _ => cases h
theorem isR_mk {i a b : Int} (h1 : a ≤ i) (h2 : i ≤ b) : isR (.int i) a b = true := by
  show (decide (a ≤ i) && decide (i ≤ b)) = true
  rw [decide_eq_true h1, decide_eq_true h2] <;> rfl
theorem isF_inv {d : PyData} {a : Int} (h : isF d a = true) : ∃ i, d = .int i ∧ a ≤ i := by
  cases d with
  | int i => exact ⟨i, rfl, of_decide_eq_true h⟩
  | _ => cases h
/-- bounds, the upper one perhaps none -/
def oW : Option Int → V
  | none => .non
  | some i => .int i
def isB (d : PyData) (a : Int) : Option Int → Bool
  | none => isF d a
  | some b => isR d a b
theorem isB_no {d : PyData} {a : Int} {o : Option Int} (h : isWh d = false) : isB d a o = false := by
  cases o with
  | none => exact isF_no h
  | some b => exact isR_no h
theorem isB_low {i a : Int} {o : Option Int} (h : i < a) : isB (.int i) a o = false := by
  cases o with
  | none => exact decide_eq_false (by omega)
  | some b =>
    show (decide (a ≤ i) && decide (i ≤ b)) = false
    rw [decide_eq_false (by omega), Bool.false_and]
theorem isB_hi {i a b : Int} (h : b < i) : isB (.int i) a (some b) = false := by
  show (decide (a ≤ i) && decide (i ≤ b)) = false
  rw [decide_eq_false (show ¬ i ≤ b by omega), Bool.and_false]
/-- the kinds of what is handed in -/
def nm (c : Nat) : Str := match c with
  | 0 => "net"
  | 1 => "number"
  | 2 => "side"
  | 3 => "many"
  | _ => "small"
def kn (w : Nat) : List Nat := match w with
  | 0 => [0, 1]
  | 1 => [0, 1]
  | 2 => [0, 2, 1]
  | 3 => [0, 1, 1, 3]
  | _ => [4]
def hiB (c k : Nat) : Option Int := match c with
  | 0 => some 4
  | 1 => none
  | 2 => some ((2 ^ k : Nat) - 1 : Int)
  | 3 => some 200
  | _ => some 3
section
variable {P : Program} {w : World} {K : PySem.W.Frag} {mg : Str → Option Value} {base : Heap} (B : Bl K mg)
include B
/-! SPLIT -/
local macro_rules | `(tactic| walk_at "own") => `(tactic| fail)
local macro_rules | `(tactic| walk_at "sm") => `(tactic| first
  | with_reducible assumption
  | exact fun _ _ z => z
  | (apply Toy.same_bk; (with_reducible assumption); walk_at "sm")
  | solve_by_elim only [Toy.same_bk, *])
local macro_rules | `(tactic| walk_at "hp") => `(tactic| ((with_reducible refine (?_ : _ = some _)); first
  | with_reducible assumption
  | exact L2.upd_same
  | (apply Toy.hp_new; assumption; walk_at "hp")
  | (apply Toy.hp_at; (with_reducible assumption); walk_at "sm")))
local macro_rules | `(tactic| walk_at "sql") => `(tactic| first
  | with_reducible assumption
  | (apply L2.SqL.of; walk_at "hp")
  | (apply Toy.sql_at; (with_reducible assumption); walk_at "sm"))
local macro_rules | `(tactic| walk_at "sqt") => `(tactic| first
  | with_reducible assumption
  | (apply L2.SqT.of; walk_at "hp")
  | (apply Toy.sqt_at; (with_reducible assumption); walk_at "sm"))
local macro_rules | `(tactic| walk_at "ar") => `(tactic| first
  | with_reducible refine (?_ : (_ : Int) < _)
  | with_reducible refine (?_ : (_ : Int) ≤ _)
  | with_reducible refine (?_ : (_ : Nat) < _)
  | with_reducible refine (?_ : (_ : Nat) ≤ _)
  | with_reducible refine (?_ : (_ : Int) = _)
  | with_reducible refine (?_ : (_ : Nat) = _)
  | with_reducible refine (?_ : ¬ _)
  | with_reducible refine (?_ : _ ∧ _))
local macro_rules | `(tactic| walk_at "om") => `(tactic| (walk_at "ar"; omega))
local macro_rules | `(tactic| walk_at "num") => `(tactic| first
  | (walk_at "ar"; first
    | omega
    | (simp only [List.length_map, List.length_append, List.length_cons, List.length_nil, List.length_replicate, List.length_take, List.length_drop, List.length_range, List.length_set, List.length_reverse] <;> omega)
    | decide
    | (split <;> split <;> omega)
    | (split <;> omega))
  | decide)
local macro_rules | `(tactic| walk_at "side") => `(tactic| first
  | with_reducible rfl
  | walk_at "om"
  | with_reducible assumption
  | exact Toy.sz
  | (apply L2.SqL.of; walk_at "hp")
  | (apply L2.SqT.of; walk_at "hp")
  | (with_reducible apply Or.inl; walk_at "sql")
  | (with_reducible apply Or.inr; walk_at "sqt")
  | (with_reducible apply Exists.intro; walk_at "side")
  | walk_at "hp"
  | exact Eq.refl _
  | (apply Toy.lk1000; walk_at "num")
  | (apply Toy.lt1000; walk_at "num")
  | walk_at "num"
  | (apply Toy.lst_dp; apply L2.SqL.of; walk_at "hp")
  | (apply Toy.tupI_dp; apply L2.SqT.of; walk_at "hp")
  | exact Toy.ints_sh _
  | exact Toy.tupI_sh _
  | (apply L2.RgOk.of_le <;> walk_at "num")
  | (apply L2.atI_nat; assumption)
  | exact L2.Dp.lst (L2.SqL.of (by walk_at "hp")) L2.DpAll.nil
  | exact L2.Dp.tup (L2.SqT.of (by walk_at "hp")) L2.DpAll.nil
  | (apply Toy.ixn; walk_at "num")
  | exact Toy.tyL (by walk_at "hp")
  | walk_at "sql"
  | walk_at "sqt"
  | exact L2.ClsV.ty _
  | (apply L2.TyX.base; first | exact L2.TyOf.int _ | exact L2.TyOf.bl _ | exact L2.TyOf.non | exact L2.TyOf.str _ | (apply L2.TyOf.tup; walk_at "hp") | (apply L2.TyOf.lst; walk_at "hp"))
  | exact L2.kit_ty (r := true) (by decide +kernel)
  | exact L2.kit_ty (r := false) (by decide +kernel)
  | walk_at "own"
  | assumption
  | (walk_at "ar"; solve_by_elim only [Toy.hp_same, Toy.hp_new, L2.upd_same, *]))
local macro_rules | `(tactic| walk_at "go") => `(tactic| first
  | (apply And.intro; (focus (walk_at "side")); try walk_at "go")
  | (apply Exists.intro; rotate_left; (fail_if_success (with_reducible refine (?_ : Nat → _ → _))); (fail_if_success (with_reducible refine (?_ : L2.St → _ → _))); rotate_right; try walk_at "go")
  | (apply Or.inl; apply And.intro; (focus (walk_at "sql")); try walk_at "go")
  | (apply Or.inr; apply And.intro; (focus (walk_at "sqt")); try walk_at "go"))
/-! ENDM -/
/-- the stepper stops here -/
structure Kept (p : Prop) : Prop where
  ex : p
omit B in
theorem none_back {H H' : Hp} {a : Addr} (S : Same H H') (h : H' a = none) : H a = none := by
  cases e : H a with
  | none => rfl
  | some o =>
    rw [S _ _ e] at h
    cases h
omit B in
theorem But.fr {p E : Addr} {H H1 : Hp} {o : HO} (b : But p H H1) (hE : H E = none) : But p H (L2.upd H1 E o) := fun x u n h => by rw [upd_ne (ne_of_none h hE)]; exact b x u n h
omit B in
theorem but_fr {p E : Addr} {H H1 H2 : Hp} (b : But p H H1) (hE : H E = none) (c : But E H1 H2) : But p H H2 := fun x u n h => c _ _ (ne_of_none h hE) (b x u n h)
omit B in
theorem pot_keep {p : Addr} {H H' : Hp} (b : But p H H') (hp : PotAt H p) : ∀ t xs, H t = some (.tup xs) → H' t = some (.tup xs) := fun t xs e => by
  obtain ⟨_, _, h1, _⟩ := hp
  exact b _ _ (ne_of e h1 (by intro z; cases z)) e
omit B in
theorem PotAt.fr {H : Hp} {p E : Addr} {o : HO} (h : PotAt H p) (n : p ≠ E) : PotAt (L2.upd H E o) p := by
  obtain ⟨a, b, h1, h2⟩ := h
  exact ⟨a, b, by rw [upd_ne n]; exact h1, h2⟩
def spWhT (K : PySem.W.Frag) : Sp := fun vs H Q _ => ∃ (v : V) (d : PyData) (p : Addr), vs = [v] ∧ Th K p H v d ∧ Q (.bl (isWh d)) H
theorem k_is_whole (D : Df K mg "is_whole" s_is_whole ["thing"]) : Dn P w K mg base 1 "is_whole" ["thing"] (spWhT K) := by
  refine D.ok fun f fd F => okG0 F sc_is_whole (fun vs H Q E h => ?_) (fun cdv A outer s H vs Q E hr h => ⟨_, (pss_one (ps_ret (pe_and (pe_callB (kk (K := K) (F := rIsi) (P := CallR _ _) call_isi) (by rfl) B.isinstance_ (by decide +kernel) (pa_cons (pv 0) (pa_cons (pe_bltn (v := .ty "int") (u := .type "int") (by rfl) B.int_ (by decide +kernel) rfl) pa_nil))) (pe_one (pe_not (pe_callB (kk (K := K) (F := rIsi) (P := CallR _ _) call_isi) (by rfl) B.isinstance_ (by decide +kernel) (pa_cons (pv 0) (pa_cons (pe_bltn (v := .ty "bool") (u := .type "bool") (by rfl) B.bool_ (by decide +kernel) rfl) pa_nil)))))))), ?_⟩)
  · obtain ⟨v, d, p, rfl, _⟩ := h; rfl
  · obtain ⟨v, d, p, rfl, hd, q⟩ := h
    have ty := hd.ty
    have k1 := kit_in (K := K) d
    have k2 := kit_bl (K := K) d
    rw [isWh_eq] at q
    generalize isIn d = x at k1 q
    generalize isBl d = y at k2 q
    cases x
    all_goals
      try walk_at "go"
      first | exact q | exact ifF rfl q | exact ifT rfl q
omit B in
theorem shl_eq (k : Nat) : (1 * 2 ^ ((k : Int)).toNat : Int) = ((2 ^ k : Nat) : Int) := by rw [Int.toNat_natCast, Int.one_mul]; push_cast; rfl
omit B in
theorem shr_eq (k m : Nat) : ((m : Int) / 2 ^ ((k : Int)).toNat : Int) = ((m / 2 ^ k : Nat) : Int) := by rw [Int.toNat_natCast]; push_cast; rfl
omit B in
theorem mul_eq (k m : Nat) : ((m : Int) * 2 ^ ((k : Int)).toNat : Int) = ((m * 2 ^ k : Nat) : Int) := by rw [Int.toNat_natCast]; push_cast; rfl
omit B in
theorem xor_eq (a b : Nat) : Builtin.bitXor (a : Int) (b : Int) = ((a ^^^ b : Nat) : Int) := by rw [Bits.bitXor_pp (by omega) (by omega), Int.toNat_natCast, Int.toNat_natCast]
omit B in
theorem bits_one : Builtin.Int.intBits 1 ≤ 10 := by decide +kernel
omit B in
theorem shl_ok {n : Nat} (h : n ≤ 1000) : CShl 1 (n : Int) := by
  have := bits_one
  exact ⟨by omega, by omega⟩
omit B in
theorem shl_mid {i j : Int} (h : i.natAbs < 2 ^ 400) (h0 : 0 ≤ j) (h1 : j ≤ 1000) : CShl i j := by
  refine ⟨h0, ?_⟩
  have h2 := log_lt (n := 400) (by decide) h
  unfold Builtin.Int.intBits
  split <;> omega
omit B in
theorem mask_eq (k m : Nat) : Builtin.bitAnd (m : Int) (1 * 2 ^ ((k : Int)).toNat - 1) = ((m % 2 ^ k : Nat) : Int) := by
  rw [Int.toNat_natCast, Int.one_mul, Bits.bitAnd_mask k (by omega)]
  push_cast; rfl
def spPiece : Sp := fun vs H Q _ => ∃ k A : Nat, vs = [.int k, .int A] ∧ k ≤ 4 ∧ Q (.int ((A % 2 ^ k : Nat) : Int)) H
theorem k_piece_of (D : Df K mg "piece_of" s_piece_of ["k", "address"]) : Dn P w K mg base 1 "piece_of" ["k", "address"] spPiece := by
  refine D.ok fun f fd F => okG0 F sc_piece_of (fun vs H Q E h => ?_) (fun cdv A outer s H vs Q E hr h => ⟨_, (pss_one (ps_ret (pe_op op_and (pv 1) (pe_op op_sub (pe_op op_shlW pe_int (pv 0)) pe_int)))), ?_⟩)
  · obtain ⟨k, A, rfl, _⟩ := h; rfl
  · obtain ⟨k, A, rfl, hk, q⟩ := h
    refine ⟨_, rfl, _, rfl, _, _, rfl, rfl, shl_ok (by omega), _, _, rfl, rfl, _, _, rfl, rfl, ?_⟩
    exact qi q (mask_eq k A).symm
def spFolded8 : Sp := fun vs H Q _ => ∃ k A : Nat, vs = [.int k, .int A] ∧ 0 < k ∧ k ≤ 4 ∧ Q (.int ((fp k A : Nat) : Int)) H
theorem k_folded_pieces (D : Df K mg "folded_pieces" s_folded_pieces ["k", "address"]) (D_piece_of : Dn P w K mg base 1 "piece_of" ["k", "address"] spPiece) : Dn P w K mg base 2 "folded_pieces" ["k", "address"] spFolded8 := by
  refine D.ok fun f fd F => okG0 F sc_folded_pieces (fun vs H Q E h => ?_) (fun cdv A outer s H vs Q E hr h => ⟨_, (pss_cons (ps_set (i := 2) sc_folded_pieces.nd rfl (Or.inl rfl) pe_int)
    (pss_cons (ps_while PassesOwn.never (pt_cmpR op_gt (pv 1) pe_int (nomark _))
      (pss_cons (ps_set (i := 2) sc_folded_pieces.nd rfl (Or.inl rfl) (pe_op op_xor (pv 2) (pe_cD D_piece_of (hr.less (by decide)) rfl (pa_cons (pv 0) (pa_cons (pv 1) pa_nil)))))
      (pss_one (ps_set (i := 1) sc_folded_pieces.nd rfl (Or.inl rfl) (pe_op op_shr (pv 1) (pv 0))))))
    (pss_one (ps_ret (pv 2))))), ?_⟩)
  · obtain ⟨k, A, rfl, _⟩ := h; rfl
  · obtain ⟨k, A, rfl, h0, hk, q⟩ := h
    refine ⟨fun m σ H2 => ∃ f : Nat, σ = [some (.int k), some (.int (m : Nat)), some (.int f)] ∧ H2 = H ∧ f ^^^ fp k m = fp k A, ⟨A, 0, rfl, rfl, Nat.zero_xor _⟩, ?_⟩
    rintro m σ H2 ⟨f, rfl, rfl, hf⟩
    refine ⟨_, rfl, _, _, rfl, rfl, _, rfl, ite2 (fun c => ?_) (fun c => ?_)⟩
    · have c' : (0 : Int) < (m : Nat) := of_decide_eq_true c
      refine ⟨fun σ' H' => ∃ f : Nat, σ' = [some (.int k), some (.int ((m / 2 ^ k : Nat) : Int)), some (.int f)] ∧ H' = H2 ∧ f ^^^ fp k (m / 2 ^ k) = fp k A, fun σ' H' h => ⟨m / 2 ^ k, Nat.div_lt_self (by omega) (Nat.one_lt_two_pow (by omega)), h⟩, ?_⟩
      refine ⟨_, rfl, _, rfl, _, rfl, k, m, rfl, hk, _, _, rfl, rfl, ?_⟩
      refine ⟨_, rfl, _, rfl, _, _, rfl, rfl, by omega, ?_⟩
      refine ⟨f ^^^ (m % 2 ^ k), ?_, rfl, by rw [Nat.xor_assoc, ← fp_eq h0]; exact hf⟩
      show [some (V.int k), some (V.int ((m : Int) / 2 ^ ((k : Int)).toNat)), some (V.int (Builtin.bitXor (f : Int) ((m % 2 ^ k : Nat) : Int)))] = _
      rw [shr_eq, xor_eq] <;> rfl
    · have c' : m = 0 := by
        rcases Nat.eq_zero_or_pos m with e | e
        · exact e
        · exact absurd (decide_eq_true (show (0 : Int) < (m : Nat) by omega)) c
      subst c'
      rw [fp_nil, Nat.xor_zero] at hf
      exact ⟨_, rfl, by rw [hf]; exact q⟩
def spSideAt : Sp := fun vs H Q _ => ∃ k A : Nat, vs = [.int k, .int A] ∧ k ≤ 4 ∧ Q (.int ((fp k A : Nat) : Int)) H
theorem k_side_at (D : Df K mg "side_at" s_side_at ["k", "address"]) (D_folded_pieces : Dn P w K mg base 2 "folded_pieces" ["k", "address"] spFolded8) : Dn P w K mg base 3 "side_at" ["k", "address"] spSideAt := by
  refine D.ok fun f fd F => okG0 F sc_side_at (fun vs H Q E h => ?_) (fun cdv A outer s H vs Q E hr h => ⟨_, (pss_one (ps_ret (pe_ifExp (pt_cmpR op_eq (pv 0) pe_int (nomark _)) pe_int (pe_cD D_folded_pieces (hr.less (by decide)) rfl (pa_cons (pv 0) (pa_cons (pv 1) pa_nil)))))), ?_⟩)
  · obtain ⟨k, A, rfl, _⟩ := h; rfl
  · obtain ⟨k, A, rfl, hk, q⟩ := h
    refine ⟨_, rfl, rfl, _, rfl, ite2 (fun c => ?_) (fun c => ?_)⟩
    · have c' : k = 0 := by
        have := of_decide_eq_true c
        injection this with e
        omega
      subst c'
      rw [fp_zero] at q
      exact q
    · have c' : 0 < k := by
        rcases Nat.eq_zero_or_pos k with e | e
        · subst e; exact absurd (decide_eq_true rfl) c
        · exact e
      exact ⟨_, rfl, _, rfl, k, A, rfl, c', hk, q⟩
def spInT (K : PySem.W.Frag) : Sp := fun vs H Q _ => ∃ (v : V) (d : PyData) (p : Addr) (a b : Int), vs = [v, .int a, .int b] ∧ Th K p H v d ∧ Q (.bl (isR d a b)) H
theorem k_is_within (D : Df K mg "is_within" s_is_within ["thing", "least", "most"]) (D_is_whole : Dn P w K mg base 1 "is_whole" ["thing"] (spWhT K)) : Dn P w K mg base 2 "is_within" ["thing", "least", "most"] (spInT K) := by
  refine D.ok fun f fd F => okG0 F sc_is_within (fun vs H Q E h => ?_) (fun cdv A outer s H vs Q E hr h => ⟨_, (pss_one (ps_ret (pe_and (pe_cD D_is_whole (hr.less (by decide)) rfl (pa_cons (pv 0) pa_nil)) (pe_one (pe_chain op_le op_le (pv 1) (pv 0) (pv 2)))))), ?_⟩)
  · obtain ⟨v, d, p, a, b, rfl, _⟩ := h; rfl
  · obtain ⟨v, d, p, a, b, rfl, hd, q⟩ := h
    try walk_at "go"
    cases e : isWh d with
    | false =>
      rw [isR_no e] at q
      try walk_at "go"
      exact q
    | true =>
      obtain ⟨i, rfl⟩ := isWh_inv e
      cases hd.int_inv
      replace q : Q (.bl (decide (a ≤ i) && decide (i ≤ b))) H := q
      try walk_at "go"
      refine ite2 (fun c => ?_) (fun c => ?_)
      · rw [c, Bool.true_and] at q
        try walk_at "go"
        exact q
      · rw [Bool.eq_false_iff.mpr c, Bool.false_and] at q
        try walk_at "go"
        exact q
def spNetT (K : PySem.W.Frag) (C : Addr) : Sp := fun vs H Q E => ∃ (v : V) (d : PyData) (p : Addr) (m : Int), vs = [v, .int m] ∧ Th K p H v d ∧ (isR d 0 m = true → Q .non H) ∧ (isR d 0 m = false → E (.ref C) none H)
theorem k_want_net (D : Dfd K mg "want_net" s_want_net ["k", "deepest"] [.int 4]) (D_is_within : Dn P w K mg base 2 "is_within" ["thing", "least", "most"] (spInT K)) : DxD P w K mg base 3 "want_net" ["k", "deepest"] [.int 4] (spNetT K (cAt mg "NoNet")) := by
  refine D.okX fun f fd F => okGA F sc_want_net (fun vs H Q E h => ?_) (fun cdv A outer s H vs Q E hr h => ⟨_, (pss_one (ps_if (pt_not (pt_val (pe_cD D_is_within (hr.less (by decide)) rfl (pa_cons (pv 0) (pa_cons pe_int (pa_cons (pv 1) pa_nil))))))
     (pss_one (ps_raise rfl (takes_of rfl rfl rfl rfl) (pmk_own PySem.F.excBase_ValueError B.NoNet_.ex B.NoNet_.mg_ B.NoNet_.kp (raises_own B.NoNet_.bs B.NoNet_.tp) rfl)))
     pss_nil)), ?_⟩)
  · obtain ⟨v, d, p, m, rfl, _⟩ := h; rfl
  · obtain ⟨v, d, p, m, rfl, hd, q1, q2⟩ := h
    try walk_at "go"
    cases e : isR d 0 m with
    | true =>
      try walk_at "go"
      refine ifF rfl ?_
      try walk_at "go"
      exact q1 e
    | false =>
      try walk_at "go"
      refine ifT rfl ?_
      exact q2 e
theorem k_want_net_all (D : Dfd K mg "want_net" s_want_net ["k", "deepest"] []) (D_is_within : Dn P w K mg base 2 "is_within" ["thing", "least", "most"] (spInT K)) : DxD P w K mg base 3 "want_net" ["k", "deepest"] [] (spNetT K (cAt mg "NoNet")) := by
  refine D.okX fun f fd F => okGA F sc_want_net (fun vs H Q E h => ?_) (fun cdv A outer s H vs Q E hr h => ⟨_, (pss_one (ps_if (pt_not (pt_val (pe_cD D_is_within (hr.less (by decide)) rfl (pa_cons (pv 0) (pa_cons pe_int (pa_cons (pv 1) pa_nil))))))
     (pss_one (ps_raise rfl (takes_of rfl rfl rfl rfl) (pmk_own PySem.F.excBase_ValueError B.NoNet_.ex B.NoNet_.mg_ B.NoNet_.kp (raises_own B.NoNet_.bs B.NoNet_.tp) rfl)))
     pss_nil)), ?_⟩)
  · obtain ⟨v, d, p, m, rfl, _⟩ := h; rfl
  · obtain ⟨v, d, p, m, rfl, hd, q1, q2⟩ := h
    try walk_at "go"
    cases e : isR d 0 m with
    | true =>
      try walk_at "go"
      refine ifF rfl ?_
      try walk_at "go"
      exact q1 e
    | false =>
      try walk_at "go"
      refine ifT rfl ?_
      exact q2 e
def spWithinT (K : PySem.W.Frag) (C : Addr) : Sp := fun vs H Q E => ∃ (v : V) (d : PyData) (p : Addr) (a m : Int), vs = [v, .int a, .int m] ∧ Th K p H v d ∧ (isR d a m = true → Q .non H) ∧ (isR d a m = false → E (.ref C) none H)
theorem k_want_within (D : Df K mg "want_within" s_want_within ["thing", "least", "most"]) (D_is_within : Dn P w K mg base 2 "is_within" ["thing", "least", "most"] (spInT K)) : Dx P w K mg base 3 "want_within" ["thing", "least", "most"] (spWithinT K (cAt mg "NoNumber")) := by
  refine D.okX fun f fd F => okGX F sc_want_within (fun vs H Q E h => ?_) (fun cdv A outer s H vs Q E hr h => ⟨_, (pss_one (ps_if (pt_not (pt_val (pe_cD D_is_within (hr.less (by decide)) rfl (pa_cons (pv 0) (pa_cons (pv 1) (pa_cons (pv 2) pa_nil))))))
     (pss_one (ps_raise rfl (takes_of rfl rfl rfl rfl) (pmk_own PySem.F.excBase_ValueError B.NoNumber_.ex B.NoNumber_.mg_ B.NoNumber_.kp (raises_own B.NoNumber_.bs B.NoNumber_.tp) rfl)))
     pss_nil)), ?_⟩)
  · obtain ⟨v, d, p, a, m, rfl, _⟩ := h; rfl
  · obtain ⟨v, d, p, a, m, rfl, hd, q1, q2⟩ := h
    try walk_at "go"
    cases e : isR d a m with
    | true =>
      try walk_at "go"
      refine ifF rfl ?_
      try walk_at "go"
      exact q1 e
    | false =>
      try walk_at "go"
      refine ifT rfl ?_
      exact q2 e
def spFromT (K : PySem.W.Frag) (C : Addr) : Sp := fun vs H Q E => ∃ (v : V) (d : PyData) (p : Addr) (a : Int), vs = [v, .int a] ∧ Th K p H v d ∧ (isF d a = true → Q .non H) ∧ (isF d a = false → E (.ref C) none H)
theorem k_want_from (D : Df K mg "want_from" s_want_from ["thing", "least"]) (D_is_whole : Dn P w K mg base 1 "is_whole" ["thing"] (spWhT K)) : Dx P w K mg base 2 "want_from" ["thing", "least"] (spFromT K (cAt mg "NoNumber")) := by
  refine D.okX fun f fd F => okGX F sc_want_from (fun vs H Q E h => ?_) (fun cdv A outer s H vs Q E hr h => ⟨_, (pss_one (ps_if (PW.pt (pw_or (pt_not (pt_val (pe_cD D_is_whole (hr.less (by decide)) rfl (pa_cons (pv 0) pa_nil)))) (pw_or1 (pt_cmpR op_lt (pv 0) (pv 1) (nomark _)))))
     (pss_one (ps_raise rfl (takes_of rfl rfl rfl rfl) (pmk_own PySem.F.excBase_ValueError B.NoNumber_.ex B.NoNumber_.mg_ B.NoNumber_.kp (raises_own B.NoNumber_.bs B.NoNumber_.tp) rfl)))
     pss_nil)), ?_⟩)
  · obtain ⟨v, d, p, a, rfl, _⟩ := h; rfl
  · obtain ⟨v, d, p, a, rfl, hd, q1, q2⟩ := h
    try walk_at "go"
    cases e : isWh d with
    | false =>
      try walk_at "go"
      refine ifT rfl ?_
      exact q2 (isF_no e)
    | true =>
      obtain ⟨i, rfl⟩ := isWh_inv e
      cases hd.int_inv
      try walk_at "go"
      refine ite2 (fun c => ?_) (fun c => ?_)
      · have := of_decide_eq_true c
        exact q2 (decide_eq_false (by omega))
      · have : ¬ i < a := fun z => c (decide_eq_true z)
        try walk_at "go"
        exact q1 (decide_eq_true (by omega))
def spPlaceT (K : PySem.W.Frag) (N M : Addr) : Sp := fun vs H Q E => ∃ (u v : V) (d e : PyData) (p : Addr), vs = [u, v] ∧ Th K p H u d ∧ Th K p H v e ∧ (isR d 0 4 = true → isF e 0 = true → ∀ x, Q x H) ∧ (isR d 0 4 = false → E (.ref N) none H) ∧ (isR d 0 4 = true → isF e 0 = false → E (.ref M) none H)
theorem k_place_of (D : Df K mg "place_of" s_place_of ["k", "address"]) (D_want_net : DxD P w K mg base 3 "want_net" ["k", "deepest"] [.int 4] (spNetT K (cAt mg "NoNet"))) (D_want_net_all : DxD P w K mg base 3 "want_net" ["k", "deepest"] [] (spNetT K (cAt mg "NoNet"))) (D_want_from : Dx P w K mg base 2 "want_from" ["thing", "least"] (spFromT K (cAt mg "NoNumber"))) : Dx P w K mg base 4 "place_of" ["k", "address"] (spPlaceT K (cAt mg "NoNet") (cAt mg "NoNumber")) := by
  refine D.okX fun f fd F => okGX F sc_place_of (fun vs H Q E h => ?_) (fun cdv A outer s H vs Q E hr h => ⟨_, (pss_cons (ps_expr (pe_cXd D_want_net (hr.less (by decide)) (takes_of rfl rfl rfl rfl) rfl (pa_cons (pv 0) pa_nil)))
    (pss_cons (ps_expr (pe_cW D_want_from (hr.less (by decide)) (takes_of rfl rfl rfl rfl) rfl (pa_cons (pv 1) (pa_cons pe_int pa_nil))))
    (pss_one (ps_ret (pe_op op_shr (pv 1) (pv 0)))))), ?_⟩)
  · obtain ⟨u, v, d, e, p, rfl, _⟩ := h; rfl
  · obtain ⟨u, v, d, e, p, rfl, hu, hv, q1, q2, q3⟩ := h
    try walk_at "go"
    refine ⟨fun c1 => ?_, q2⟩
    try walk_at "go"
    refine ⟨fun c2 => ?_, q3 c1⟩
    obtain ⟨k, rfl, k0, k4⟩ := isR_inv c1
    obtain ⟨A, rfl, a0⟩ := isF_inv c2
    cases hu.int_inv
    cases hv.int_inv
    try walk_at "go"
    exact q1 c1 c2 _
theorem k_side_of (D : Df K mg "side_of" s_side_of ["k", "address"]) (D_want_net : DxD P w K mg base 3 "want_net" ["k", "deepest"] [.int 4] (spNetT K (cAt mg "NoNet"))) (D_want_net_all : DxD P w K mg base 3 "want_net" ["k", "deepest"] [] (spNetT K (cAt mg "NoNet"))) (D_want_from : Dx P w K mg base 2 "want_from" ["thing", "least"] (spFromT K (cAt mg "NoNumber"))) (D_side_at : Dn P w K mg base 3 "side_at" ["k", "address"] spSideAt) : Dx P w K mg base 4 "side_of" ["k", "address"] (spPlaceT K (cAt mg "NoNet") (cAt mg "NoNumber")) := by
  refine D.okX fun f fd F => okGX F sc_side_of (fun vs H Q E h => ?_) (fun cdv A outer s H vs Q E hr h => ⟨_, (pss_cons (ps_expr (pe_cXd D_want_net (hr.less (by decide)) (takes_of rfl rfl rfl rfl) rfl (pa_cons (pv 0) pa_nil)))
    (pss_cons (ps_expr (pe_cW D_want_from (hr.less (by decide)) (takes_of rfl rfl rfl rfl) rfl (pa_cons (pv 1) (pa_cons pe_int pa_nil))))
    (pss_one (ps_ret (pe_cD D_side_at (hr.less (by decide)) rfl (pa_cons (pv 0) (pa_cons (pv 1) pa_nil))))))), ?_⟩)
  · obtain ⟨u, v, d, e, p, rfl, _⟩ := h; rfl
  · obtain ⟨u, v, d, e, p, rfl, hu, hv, q1, q2, q3⟩ := h
    try walk_at "go"
    refine ⟨fun c1 => ?_, q2⟩
    try walk_at "go"
    refine ⟨fun c2 => ?_, q3 c1⟩
    obtain ⟨k, rfl, k0, k4⟩ := isR_inv c1
    obtain ⟨A, rfl, a0⟩ := isF_inv c2
    cases hu.int_inv
    cases hv.int_inv
    obtain ⟨k, rfl⟩ : ∃ k' : Nat, k = (k' : Int) := ⟨k.toNat, by omega⟩
    obtain ⟨A, rfl⟩ : ∃ k' : Nat, A = (k' : Int) := ⟨A.toNat, by omega⟩
    try walk_at "go"
    exact q1 c1 c2 _
def spAddrT (K : PySem.W.Frag) (N M S : Addr) : Sp := fun vs H Q E => ∃ (u v w : V) (d e f : PyData) (p : Addr), vs = [u, v, w] ∧ Th K p H u d ∧ Th K p H v e ∧ Th K p H w f ∧ ib f ≤ 10 ^ 90 ∧ (∀ k : Nat, d = .int k → k ≤ 4 → isR e 0 ((2 ^ k : Nat) - 1 : Int) = true → isF f 0 = true → ∀ x, Q x H) ∧ (isR d 0 4 = false → E (.ref N) none H) ∧ (isR d 0 4 = true → isF f 0 = false → E (.ref M) none H) ∧ (∀ k : Nat, d = .int k → k ≤ 4 → isF f 0 = true → isR e 0 ((2 ^ k : Nat) - 1 : Int) = false → E (.ref S) none H)
theorem k_address_at (D : Df K mg "address_at" s_address_at ["k", "side", "place"]) (D_want_net : DxD P w K mg base 3 "want_net" ["k", "deepest"] [.int 4] (spNetT K (cAt mg "NoNet"))) (D_want_net_all : DxD P w K mg base 3 "want_net" ["k", "deepest"] [] (spNetT K (cAt mg "NoNet"))) (D_want_from : Dx P w K mg base 2 "want_from" ["thing", "least"] (spFromT K (cAt mg "NoNumber"))) (D_is_within : Dn P w K mg base 2 "is_within" ["thing", "least", "most"] (spInT K)) (D_side_at : Dn P w K mg base 3 "side_at" ["k", "address"] spSideAt) : Dx P w K mg base 4 "address_at" ["k", "side", "place"] (spAddrT K (cAt mg "NoNet") (cAt mg "NoNumber") (cAt mg "NoSide")) := by
  refine D.okX fun f fd F => okGX F sc_address_at (fun vs H Q E h => ?_) (fun cdv A outer s H vs Q E hr h => ⟨_, (pss_cons (ps_expr (pe_cXd D_want_net (hr.less (by decide)) (takes_of rfl rfl rfl rfl) rfl (pa_cons (pv 0) pa_nil)))
    (pss_cons (ps_expr (pe_cW D_want_from (hr.less (by decide)) (takes_of rfl rfl rfl rfl) rfl (pa_cons (pv 2) (pa_cons pe_int pa_nil))))
    (pss_cons (ps_if (pt_not (pt_val (pe_cD D_is_within (hr.less (by decide)) rfl (pa_cons (pv 1) (pa_cons pe_int (pa_cons (pe_op op_sub (pe_op op_shlW pe_int (pv 0)) pe_int) pa_nil))))))
      (pss_one (ps_raise rfl (takes_of rfl rfl rfl rfl) (pmk_own PySem.F.excBase_ValueError B.NoSide_.ex B.NoSide_.mg_ B.NoSide_.kp (raises_own B.NoSide_.bs B.NoSide_.tp) rfl)))
      pss_nil)
    (pss_one (ps_ret (pe_op op_add (pe_op op_shlW (pv 2) (pv 0)) (pe_op op_xor (pv 1) (pe_cD D_side_at (hr.less (by decide)) rfl (pa_cons (pv 0) (pa_cons (pv 2) pa_nil)))))))))), ?_⟩)
  · obtain ⟨u, v, w, d, e, f, p, rfl, _⟩ := h; rfl
  · obtain ⟨u, v, w, d, e, f, p, rfl, hu, hv, hw, hf, q1, q2, q3, q4⟩ := h
    try walk_at "go"
    refine ⟨fun c1 => ?_, q2⟩
    try walk_at "go"
    refine ⟨fun c2 => ?_, q3 c1⟩
    obtain ⟨k, rfl, k0, k4⟩ := isR_inv c1
    obtain ⟨A, rfl, a0⟩ := isF_inv c2
    cases hu.int_inv
    cases hw.int_inv
    obtain ⟨k, rfl⟩ : ∃ k' : Nat, k = (k' : Int) := ⟨k.toNat, by omega⟩
    obtain ⟨A, rfl⟩ : ∃ k' : Nat, A = (k' : Int) := ⟨A.toNat, by omega⟩
    have csh : CShl 1 (k : Int) := shl_ok (by omega)
    replace hf : (A : Int).natAbs ≤ 10 ^ 90 := hf
    have csh2 : CShl (A : Int) (k : Int) := shl_mid (by rw [Int.natAbs_natCast] at hf ⊢; exact Nat.lt_of_le_of_lt hf (by decide)) (by omega) (by omega)
    try walk_at "go"
    rw [shl_eq]
    cases c3 : isR e 0 (((2 ^ k : Nat) : Int) - 1) with
    | false =>
      try walk_at "go"
      refine ifT rfl ?_
      exact q4 k rfl (by omega) c2 c3
    | true =>
      obtain ⟨s, rfl, s0, s1⟩ := isR_inv c3
      cases hv.int_inv
      try walk_at "go"
      exact q1 k rfl (by omega) c3 c2 _
def spLyT (K : PySem.W.Frag) (N M : Addr) : Sp := fun vs H Q E => ∃ (u v w z : V) (d e f g : PyData) (p : Addr), vs = [u, v, w, z] ∧ Th K p H u d ∧ Th K p H v e ∧ Th K p H w f ∧ Th K p H z g ∧ ib e ≤ 10 ^ 85 ∧ ib f ≤ 10 ^ 85 ∧ (isR d 0 4 = true → (isF e 0 && (isF f 0 && isR g 0 200)) = true → ∀ x H', Same H H' → Q x H') ∧ (isR d 0 4 = false → E (.ref N) none H) ∧ (isR d 0 4 = true → (isF e 0 && (isF f 0 && isR g 0 200)) = false → E (.ref M) none H)
theorem k_lying (D : Df K mg "lying" s_lying ["k", "begin", "step", "many"]) (D_want_net : DxD P w K mg base 3 "want_net" ["k", "deepest"] [.int 4] (spNetT K (cAt mg "NoNet"))) (D_want_net_all : DxD P w K mg base 3 "want_net" ["k", "deepest"] [] (spNetT K (cAt mg "NoNet"))) (D_want_from : Dx P w K mg base 2 "want_from" ["thing", "least"] (spFromT K (cAt mg "NoNumber"))) (D_want_within : Dx P w K mg base 3 "want_within" ["thing", "least", "most"] (spWithinT K (cAt mg "NoNumber"))) (D_side_at : Dn P w K mg base 3 "side_at" ["k", "address"] spSideAt) : Dx P w K mg base 4 "lying" ["k", "begin", "step", "many"] (spLyT K (cAt mg "NoNet") (cAt mg "NoNumber")) := by
  refine D.okX fun f fd F => okGX F sc_lying (fun vs H Q E h => ?_) (fun cdv A outer s H vs Q E hr h => ⟨_, (pss_cons (ps_expr (pe_cXd D_want_net (hr.less (by decide)) (takes_of rfl rfl rfl rfl) rfl (pa_cons (pv 0) pa_nil)))
    (pss_cons (ps_expr (pe_cW D_want_from (hr.less (by decide)) (takes_of rfl rfl rfl rfl) rfl (pa_cons (pv 1) (pa_cons pe_int pa_nil))))
    (pss_cons (ps_expr (pe_cW D_want_from (hr.less (by decide)) (takes_of rfl rfl rfl rfl) rfl (pa_cons (pv 2) (pa_cons pe_int pa_nil))))
    (pss_cons (ps_expr (pe_cW D_want_within (hr.less (by decide)) (takes_of rfl rfl rfl rfl) rfl (pa_cons (pv 3) (pa_cons pe_int (pa_cons (pe_glob (v := .int (200)) (u := .int (200) B.MOST_LAID_.choose) (by rfl) B.MOST_LAID_.choose_spec ⟨_, rfl⟩) pa_nil)))))
    (pss_cons (ps_set (i := 4) sc_lying.nd rfl (Or.inl rfl) (pe_op op_rep (pe_lst (pa_cons pe_int pa_nil)) (pe_op op_shlW pe_int (pv 0))))
    (pss_cons (ps_for (passes_of rfl) rfl (pi_range1 (by rfl) B.range_ (pa_cons (pv 3) pa_nil)) (pg_name (i := 5) sc_lying.nd rfl (Or.inl rfl))
      (pss_one (ps_augS (pv 4) (pe_cD D_side_at (hr.less (by decide)) rfl (pa_cons (pv 0) (pa_cons (pe_op op_add (pv 1) (pe_op op_mulX (pv 5) (pv 2))) pa_nil))) get_listI pe_int ip_add set_list)))
    (pss_one (ps_ret (pe_callTy (tupOfK (K := K)) (by rfl) B.tuple_ (by decide +kernel) (pa_cons (pv 4) pa_nil)))))))))), ?_⟩)
  · obtain ⟨u, v, w, z, d, e, f, g, p, rfl, _⟩ := h; rfl
  · obtain ⟨u, v, w, z, d, e, f, g, p, rfl, hu, hv, hw, hz, he, hf, q1, q2, q3⟩ := h
    try walk_at "go"
    refine ⟨fun c1 => ?_, q2⟩
    try walk_at "go"
    refine ⟨fun c2 => ?_, fun c => q3 c1 (by rw [c] <;> rfl)⟩
    try walk_at "go"
    refine ⟨fun c3 => ?_, fun c => q3 c1 (by rw [c2, c] <;> rfl)⟩
    try walk_at "go"
    refine ⟨fun c4 => ?_, fun c => q3 c1 (by rw [c2, c3, c] <;> rfl)⟩
    replace q1 := q1 c1 (by rw [c2, c3, c4] <;> rfl)
    obtain ⟨k, rfl, k0, k4⟩ := isR_inv c1
    obtain ⟨b, rfl, b0⟩ := isF_inv c2
    obtain ⟨s, rfl, s0⟩ := isF_inv c3
    obtain ⟨m, rfl, m0, m2⟩ := isR_inv c4
    cases hu.int_inv
    cases hv.int_inv
    cases hw.int_inv
    cases hz.int_inv
    obtain ⟨k, rfl⟩ : ∃ k' : Nat, k = (k' : Int) := ⟨k.toNat, by omega⟩
    obtain ⟨b, rfl⟩ : ∃ k' : Nat, b = (k' : Int) := ⟨b.toNat, by omega⟩
    obtain ⟨s, rfl⟩ : ∃ k' : Nat, s = (k' : Int) := ⟨s.toNat, by omega⟩
    obtain ⟨m, rfl⟩ : ∃ k' : Nat, m = (k' : Int) := ⟨m.toNat, by omega⟩
    have hk : k ≤ 4 := by omega
    have hm : m ≤ 200 := by omega
    replace hf : (s : Int).natAbs ≤ 10 ^ 85 := hf
    have eM : 2 ^ k ≤ 16 := (Nat.pow_le_pow_right (by decide) hk : 2 ^ k ≤ 2 ^ 4)
    have e0 := Int.natCast_nonneg (2 ^ k)
    refine ⟨sz, fun l hl => ⟨_, rfl, _, _, rfl, rfl, shl_ok (by omega), l, _, _, rfl, rfl, upd_same, by rw [shl_eq]; omega, by rw [shl_eq]; omega, ?_, fun L hL => ?_⟩⟩
    · rw [shl_eq, Int.toNat_natCast]
      exact small (by show 1 * _ ≤ 1000; omega)
    rw [shl_eq, Int.toNat_natCast, rep_flat, ← cn_nil]
    have S0 := same_new hl (.lst [.int 0])
    refine ⟨_, rfl, _, rfl, by omega, by omega, ?_⟩
    rw [Int.toNat_natCast]
    refine for_range (lo := 0) (n := m) (fun i σ H2 => ∃ v : Option V, σ = [some (.int k), some (.int b), some (.int s), some (.int m), some (.ref L), v] ∧ Same (upd H l (.lst [.int 0])) H2 ∧ H2 L = some (.lst ((cn (2 ^ k) (sds k b s i)).map V.int))) ⟨none, rfl, same_new hL _, upd_same⟩ ?_ ?_
    · rintro i σ H2 hi ⟨v, rfl, S2, hL2⟩
      have hj := fp_lt (k := k) (b + i * s)
      have ms : CMulX (0 + (i : Int)) (s : Int) := mulx 10 300 (by omega) (by rw [Int.natAbs_natCast] at hf ⊢; exact Nat.lt_of_le_of_lt hf (by decide))
      refine ⟨_, rfl, _, rfl, _, rfl, _, rfl, _, rfl, _, _, rfl, rfl, ms, _, _, rfl, rfl, k, b + i * s, ?_, hk, ?_⟩
      · show [V.int (k : Int), V.int ((b : Int) + (0 + (i : Int)) * s)] = _
        rw [Int.zero_add]; push_cast; rfl
      refine ⟨L, _, _, _, rfl, rfl, SqL.of hL2, at_of (j := fp k (b + i * s)) rfl (by rw [List.getElem?_map, cn_at hj] <;> rfl), _, _, rfl, rfl, L, _, _, _, rfl, rfl, hL2, ixn (by rw [List.length_map, cn_len]; exact hj), ?_⟩
      refine ⟨_, rfl, but_same hL S2 But.upd, ?_⟩
      rw [upd_same, sds_succ, ← cn_set hj, List.map_set] <;> rfl
    · rintro σ H2 ⟨v, rfl, S2, hL2⟩
      exact ⟨_, rfl, L, _, rfl, .inl ⟨SqL.of hL2, fun T hT => q1 _ _ (S0.trans (S2.trans (same_new hT _)))⟩⟩
/-! SPLIT -/
/-! ### the program: the counting net -/
def spMerged (K : PySem.W.Frag) (n : Nat) : Sp := fun vs H Q _ => ∃ (o1 o2 : Addr) (a b : List Nat) (m : Nat), vs = [.ref o1, .ref o2] ∧ H o1 = some (.lst ((iN a).map V.int)) ∧ H o2 = some (.lst ((iN b).map V.int)) ∧ a.length = 2 ^ m ∧ b.length = 2 ^ m ∧ m < n ∧ m ≤ 3 ∧ ∀ T H', Same H H' → MgAt H' T (mgd m a b) → FrT H H' T → Q (.ref T) H'
theorem merged_z (vs : List V) (H : Hp) (Q : VK) (E : XK) : ¬ spMerged K 0 vs H Q E := by
  rintro ⟨o1, o2, a, b, m, _, _, _, _, _, h, _⟩
  omega
theorem k_merged_rec (D : Df K mg "merged" s_merged ["one", "other"]) : ∀ n : Nat, Dn P w K mg base (1 + n) "merged" ["one", "other"] ((spMerged K) n) := by
  intro n
  induction n with
  | zero => exact D.ok fun f fd F => ⟨fun vs H Q E h => (merged_z B vs H Q E h).elim, fun _ _ _ _ h => (merged_z B _ _ _ _ h).elim⟩
  | succ n D_merged =>
    refine D.ok fun f fd F => okG0 (k := 1 + n) F sc_merged (fun vs H Q E h => ?_) (fun cdv A outer s H vs Q E hr h => ⟨_, (pss_cons (ps_if (pt_cmpR op_eq (pe_callB (lenK (K := K)) (by rfl) B.len_ (by decide +kernel) (pa_cons (pv 0) pa_nil)) pe_int (nomark _))
      (pss_one (ps_ret (pe_tup (pa_cons (pe_lst (pa_cons (pe_tup (pa_cons (pe_ix (kk (K := K) (F := rIxL) (P := IxR _) ix_list) (pv 0) pe_int (fun _ _ => rfl)) (pa_cons (pe_ix (kk (K := K) (F := rIxL) (P := IxR _) ix_list) (pv 1) pe_int (fun _ _ => rfl)) pa_nil))) pa_nil)) (pa_cons (pe_lst (pa_cons (pe_ix (kk (K := K) (F := rIxL) (P := IxR _) ix_list) (pv 0) pe_int (fun _ _ => rfl)) (pa_cons (pe_ix (kk (K := K) (F := rIxL) (P := IxR _) ix_list) (pv 1) pe_int (fun _ _ => rfl)) pa_nil))) pa_nil)))))
      pss_nil)
    (pss_cons (ps_asg (pe_cD D_merged (hr.less (by omega)) rfl (pa_cons (kk (K := K) (F := fun K => tStep K 0 _) (P := PE _ _) (pe_step2 (lo := 0) (by decide) rfl (pv 0))) (pa_cons (kk (K := K) (F := fun K => tStep K 1 _) (P := PE _ _) (pe_step2 (lo := 1) (by decide) rfl (pv 1))) pa_nil))) (kk (K := K) (F := fun K => gTup K 2 _) (P := PG _ _) (pg_tup rfl (pgs_cons (pg_name (i := 2) sc_merged.nd rfl (Or.inl rfl)) (pgs_cons (pg_name (i := 3) sc_merged.nd rfl (Or.inl rfl)) pgs_nil)))))
    (pss_cons (ps_asg (pe_cD D_merged (hr.less (by omega)) rfl (pa_cons (kk (K := K) (F := fun K => tStep K 1 _) (P := PE _ _) (pe_step2 (lo := 1) (by decide) rfl (pv 0))) (pa_cons (kk (K := K) (F := fun K => tStep K 0 _) (P := PE _ _) (pe_step2 (lo := 0) (by decide) rfl (pv 1))) pa_nil))) (kk (K := K) (F := fun K => gTup K 2 _) (P := PG _ _) (pg_tup rfl (pgs_cons (pg_name (i := 4) sc_merged.nd rfl (Or.inl rfl)) (pgs_cons (pg_name (i := 5) sc_merged.nd rfl (Or.inl rfl)) pgs_nil)))))
    (pss_cons (ps_set (i := 6) sc_merged.nd rfl (Or.inl rfl) (kk (K := K) (F := fun K => tListZip K _) (P := PE _ _) (pe_listZip rfl (by rfl) B.list_ (by rfl) B.zip_ (pa_cons (pv 3) (pa_cons (pv 5) pa_nil)))))
    (pss_cons (ps_set (i := 7) sc_merged.nd rfl (Or.inl rfl) (pe_lst pa_nil))
    (pss_cons (ps_for PassesOwn.never rfl (kk (K := K) (F := fun K => iList K _) (P := PI _ _ _) (pi_list (pv 6))) (pg_name (i := 8) sc_merged.nd rfl (Or.inl rfl))
      (pss_one (ps_expr (kk (K := K) (F := fun K => tBM K "list" _ _ _) (P := PE _ _) (pe_bm PySem.F.plainAttrs_list PySem.F.slot_list_extend PySem.F.type_list_extend mt_extend (pv 7) (pa_cons (pe_callTy (lstOfK (K := K)) (by rfl) B.list_ (by decide +kernel) (pa_cons (pv 8) pa_nil)) pa_nil))))))
    (pss_one (ps_ret (pe_tup (pa_cons (pe_op op_cat (pe_op op_cat (pv 2) (pv 4)) (pv 6)) (pa_cons (pv 7) pa_nil))))))))))), ?_⟩)
    · obtain ⟨o1, o2, a, b, m, rfl, _⟩ := h; rfl
    · obtain ⟨o1, o2, a, b, m, rfl, h1, h2, la, lb, hm, h3, q⟩ := h
      refine ⟨_, rfl, o1, _, rfl, .inl (SqL.of h1), rfl, _, rfl, ite2 (fun c => ?_) (fun c => ?_)⟩
      · have hm0 : m = 0 := by
          have e := V.int.inj (of_decide_eq_true c)
          rw [iN_len, la] at e
          rcases Nat.eq_zero_or_pos m with e2 | e2
          · exact e2
          · have := Nat.one_lt_two_pow (n := m) (by omega); omega
        subst hm0
        have la' : a.length = 1 := la
        have lb' : b.length = 1 := lb
        have ga : a[0]? = some (a.getD 0 0) := getD_at (by omega)
        have gb : b[0]? = some (b.getD 0 0) := getD_at (by omega)
        refine ⟨_, rfl, o1, _, _, _, rfl, rfl, SqL.of h1, at_of (j := 0) rfl (iN_at ga), _, rfl, o2, _, _, _, rfl, rfl, SqL.of h2, at_of (j := 0) rfl (iN_at gb), sz, fun t ht => ⟨sz, fun L1 hL1 => ?_⟩⟩
        have S1 := same_new ht (.tup [.int (a.getD 0 0 : Nat), .int (b.getD 0 0 : Nat)])
        have S2 := same_new hL1 (.lst [.ref t])
        have S12 := S1.trans S2
        refine ⟨_, rfl, o1, _, _, _, rfl, rfl, SqL.of (S12 _ _ h1), at_of (j := 0) rfl (iN_at ga), _, rfl, o2, _, _, _, rfl, rfl, SqL.of (S12 _ _ h2), at_of (j := 0) rfl (iN_at gb), sz, fun L2 hL2 => ⟨sz, fun T hT => ?_⟩⟩
        have S3 := same_new hL2 (.lst [.int (a.getD 0 0 : Nat), .int (b.getD 0 0 : Nat)])
        have S4 := same_new hT (.tup [.ref L1, .ref L2])
        have S34 := S3.trans S4
        exact q T _ (S12.trans S34) ⟨L1, L2, upd_same, ⟨[t], S34 _ _ upd_same, PtsAt.one (S34 _ _ (S2 _ _ upd_same))⟩, S4 _ _ upd_same⟩ (FrT.of upd_same (S12.free hL2))
      · obtain ⟨k, rfl⟩ : ∃ k, m = k + 1 := by
          rcases Nat.eq_zero_or_pos m with e2 | e2
          · subst e2
            exact absurd (decide_eq_true (by rw [iN_len, la] <;> rfl)) c
          · exact ⟨m - 1, by omega⟩
        obtain ⟨e1, e2⟩ := two_pow_even k
        have l1 : (by2 0 a).length = 2 ^ k := by rw [by2_half (by decide) (by omega)]; omega
        have l2 : (by2 1 b).length = 2 ^ k := by rw [by2_half (by decide) (by omega)]; omega
        have l3 : (by2 1 a).length = 2 ^ k := by rw [by2_half (by decide) (by omega)]; omega
        have l4 : (by2 0 b).length = 2 ^ k := by rw [by2_half (by decide) (by omega)]; omega
        have ev1 : ((iN a).map V.int).length % 2 = 0 := by rw [iN_len]; omega
        have ev2 : ((iN b).map V.int).length % 2 = 0 := by rw [iN_len]; omega
        have bm : ∀ (lo : Nat) (x : List Nat), by2 lo ((iN x).map V.int) = (iN (by2 lo x)).map V.int := fun lo x => by unfold iN; rw [by2_map, by2_map]
        refine ⟨_, rfl, o1, _, rfl, SqL.of h1, ev1, fun p1 hp1 => ?_⟩
        have S1 := same_new hp1 (.lst (by2 0 ((iN a).map V.int)))
        refine ⟨_, rfl, o2, _, rfl, SqL.of (S1 _ _ h2), ev2, fun p2 hp2 => ?_⟩
        have S2 := same_new hp2 (.lst (by2 1 ((iN b).map V.int)))
        refine ⟨p1, p2, by2 0 a, by2 1 b, k, rfl, by rw [← bm]; exact S2 _ _ upd_same, by rw [← bm]; exact upd_same, l1, l2, by omega, by omega, fun T1 H1 S3 hT1 _ => ?_⟩
        obtain ⟨L1, U1, hT1, hL1, hU1⟩ := hT1
        have S13 := S1.trans (S2.trans S3)
        clear S1 S2 S3 hp1 hp2
        refine ⟨T1, _, rfl, SqT.of hT1, rfl, _, _, rfl, _, _, rfl, rfl, ?_⟩
        refine ⟨_, rfl, o1, _, rfl, SqL.of (S13 _ _ h1), ev1, fun p1 hp1 => ?_⟩
        have S4 := same_new hp1 (.lst (by2 1 ((iN a).map V.int)))
        refine ⟨_, rfl, o2, _, rfl, SqL.of (S4 _ _ (S13 _ _ h2)), ev2, fun p2 hp2 => ?_⟩
        have S5 := same_new hp2 (.lst (by2 0 ((iN b).map V.int)))
        refine ⟨p1, p2, by2 1 a, by2 0 b, k, rfl, by rw [← bm]; exact S5 _ _ upd_same, by rw [← bm]; exact upd_same, l3, l4, by omega, by omega, fun T2 H2 S6 hT2 _ => ?_⟩
        obtain ⟨L2, U2, hT2, hL2, hU2⟩ := hT2
        have S46 := S4.trans (S5.trans S6)
        clear S4 S5 S6 hp1 hp2
        refine ⟨T2, _, rfl, SqT.of hT2, rfl, _, _, rfl, _, _, rfl, rfl, ?_⟩
        have hL1' := hL1.same S46
        have hU1' := S46 _ _ hU1
        have g1 := mg_len k l1 l2
        have g2 := mg_len k l3 l4
        have t1 := mg_tog k l1 l2
        have t2 := mg_tog k l3 l4
        have hk16 : 2 ^ (k + 1) ≤ 2 ^ 3 := Nat.pow_le_pow_right (by decide) (by omega)
        have hkm : (k + 1) * 2 ^ k ≤ 3 * 2 ^ 2 := Nat.mul_le_mul (by omega) (Nat.pow_le_pow_right (by decide) (by omega))
        have S16 := S13.trans S46
        have hmg : mgd (k + 1) a b = ((mgd k (by2 0 a) (by2 1 b)).1 ++ (mgd k (by2 1 a) (by2 0 b)).1 ++ (mgd k (by2 0 a) (by2 1 b)).2.zip (mgd k (by2 1 a) (by2 0 b)).2, fl ((mgd k (by2 0 a) (by2 1 b)).2.zip (mgd k (by2 1 a) (by2 0 b)).2)) := rfl
        rw [hmg] at q
        clear hmg hL1 hU1 hT1 hT2
        generalize mgd k (by2 0 a) (by2 1 b) = x at *
        generalize mgd k (by2 1 a) (by2 0 b) = y at *
        obtain ⟨x1, x2⟩ := x
        obtain ⟨y1, y2⟩ := y
        have g1' : x2.length = 2 ^ (k + 1) := g1
        have g2' : y2.length = 2 ^ (k + 1) := g2
        refine ⟨_, rfl, _, rfl, U1, U2, _, _, rfl, SqL.of hU1', SqL.of hU2, by rw [iN_len, iN_len, g1, g2], by rw [iN_len]; show x2.length ≤ 1000; omega, fun S ts H3 S7 hfr hS hls hps => ?_⟩
        have hpt := pts_of hls (by show x2.length = y2.length; omega) hps
        have zl : (x2.zip y2).length = 2 ^ (k + 1) := by rw [List.length_zip]; show min x2.length y2.length = _; omega
        generalize x2.zip y2 = z at hpt zl q
        refine ⟨sz, fun R hR => ?_⟩
        have S8 := same_new hR (.lst [])
        have hS8 := S8 _ _ hS
        refine ⟨_, rfl, S, rfl, ⟨_, SqL.of hS8⟩, ?_⟩
        refine for_list (K := K) (a := S) (xs := ts.map V.ref) (fun i σ H4 => ∃ v8 : Option V, σ = [some (.ref o1), some (.ref o2), some (.ref L1), some (.ref U1), some (.ref L2), some (.ref U2), some (.ref S), some (.ref R), v8] ∧ Same H3 H4 ∧ H4 R = some (.lst ((iN (fl (z.take i))).map V.int))) ⟨none, rfl, S8, upd_same⟩ (fun i σ H4 _ h => by obtain ⟨_, _, h2, _⟩ := h; exact SqL.of (h2 _ _ hS)) ?_ ?_
        · rintro i w σ H4 hi ⟨v8, rfl, S9, hR4⟩
          rw [List.getElem?_map] at hi
          obtain ⟨t, ht, rfl⟩ := Option.map_eq_some_iff.mp hi
          have hil := (List.getElem?_eq_some_iff.mp ht).1
          have hil2 : i < z.length := by rw [← hpt.1]; exact hil
          have htp := S9 _ _ (hpt.2 i t z[i] ht (List.getElem?_eq_getElem hil2))
          refine ⟨_, rfl, .inl ⟨rfl, _, SqL.of hR4⟩, _, rfl, t, _, rfl, .inr (SqT.of htp), fun b hb => ?_⟩
          have S10 := same_new hb (.lst [.int (z[i].1 : Nat), .int (z[i].2 : Nat)])
          have nRb : R ≠ b := ne_of_none hR4 hb
          refine ⟨R, b, _, _, rfl, rfl, by rw [upd_ne nRb]; exact hR4, upd_same, small (by rw [iN_len, fl_len, List.length_take]; show 2 * min i z.length + 2 ≤ 1000; omega), ?_⟩
          refine ⟨_, rfl, but_same hR (S9.trans S10) But.upd, ?_⟩
          rw [upd_same, List.take_succ, List.getElem?_eq_getElem hil2]
          show _ = some (HO.lst ((iN (fl (z.take i ++ [z[i]]))).map V.int))
          rw [fl_snoc]
          unfold iN
          rw [List.map_append, List.map_append] <;> rfl
        · rintro σ H4 ⟨v8, rfl, S9, hR4⟩
          rw [List.length_map, hpt.1, List.take_length] at hR4
          have S39 := S7.trans S9
          obtain ⟨t1s, hL1a, hL1b⟩ := hL1'.same S39
          obtain ⟨t2s, hL2a, hL2b⟩ := hL2.same S39
          have c1 : t1s.length = x1.length := hL1b.1
          have c2 : t2s.length = y1.length := hL2b.1
          have c1' : x1.length = (k + 1) * 2 ^ k := t1
          have c2' : y1.length = (k + 1) * 2 ^ k := t2
          refine ⟨_, rfl, _, rfl, L1, L2, _, _, rfl, rfl, hL1a, hL2a, small (by rw [List.length_map, List.length_map]; omega), fun L hL => ?_⟩
          have S10 := same_new hL (.lst (t1s.map V.ref ++ t2s.map V.ref))
          refine ⟨_, rfl, L, S, _, _, rfl, rfl, upd_same, S10 _ _ (S9 _ _ hS), small (by rw [List.length_append, List.length_map, List.length_map, List.length_map]; have := hpt.1; omega), fun M hM => ?_⟩
          have S11 := same_new hM (.lst ((t1s.map V.ref ++ t2s.map V.ref) ++ ts.map V.ref))
          refine ⟨_, rfl, sz, fun T hT => ?_⟩
          have S12 := same_new hT (.tup [.ref M, .ref R])
          have S1112 := S11.trans S12
          have S1012 := S10.trans S1112
          refine q T _ (S16.trans (S39.trans S1012)) ⟨M, R, upd_same, ⟨t1s ++ t2s ++ ts, ?_, ((hL1b.same S1012).app (hL2b.same S1012)).app (hpt.same (S9.trans S1012))⟩, S1012 _ _ hR4⟩ (FrT.of upd_same ((S16.trans S7).free hR))
          rw [S12 _ _ upd_same, List.map_append, List.map_append]
theorem k_merged (D : Df K mg "merged" s_merged ["one", "other"]) : Dn P w K mg base 5 "merged" ["one", "other"] ((spMerged K) 4) := k_merged_rec B D  4
def spCl (K : PySem.W.Frag) (n : Nat) : Sp := fun vs H Q _ => ∃ (o : Addr) (ls : List Nat) (m : Nat), vs = [.ref o] ∧ H o = some (.lst ((iN ls).map V.int)) ∧ ls.length = 2 ^ m ∧ m < n ∧ m ≤ 3 ∧ ∀ T H', Same H H' → MgAt H' T (cl m ls) → (∀ L1 L2 : Addr, H' T = some (.tup [.ref L1, .ref L2]) → H L2 = none ∨ L2 = o) → Q (.ref T) H'
theorem counted_lines_z (vs : List V) (H : Hp) (Q : VK) (E : XK) : ¬ spCl K 0 vs H Q E := by
  rintro ⟨o, ls, m, _, _, _, h, _⟩
  omega
omit B in
theorem cl_tog : ∀ m, m ≤ 3 → ∀ {ls : List Nat}, ls.length = 2 ^ m → (cl m ls).1.length ≤ 100 := by
  have h0 : ∀ {ls : List Nat}, ls.length = 2 ^ 0 → (cl 0 ls).1.length ≤ 0 := fun _ => Nat.le_refl _
  have up : ∀ m b, m ≤ 2 → (∀ {ls : List Nat}, ls.length = 2 ^ m → (cl m ls).1.length ≤ b) → ∀ {ls : List Nat}, ls.length = 2 ^ (m + 1) → (cl (m + 1) ls).1.length ≤ 2 * b + 12 := by
    intro m b hm ih ls hl
    have e3 : 2 ^ (m + 1) = 2 ^ m + 2 ^ m := by rw [Nat.pow_succ]; omega
    have a1 : (ls.take (2 ^ m)).length = 2 ^ m := by rw [List.length_take]; omega
    have a2 : (ls.drop (2 ^ m)).length = 2 ^ m := by rw [List.length_drop]; omega
    have i1 := ih a1
    have i2 := ih a2
    have hkm : (m + 1) * 2 ^ m ≤ 3 * 2 ^ 2 := Nat.mul_le_mul (by omega) (Nat.pow_le_pow_right (by decide) (by omega))
    show (_ ++ _ ++ _ : List (Nat × Nat)).length ≤ _
    rw [List.length_append, List.length_append, mg_tog m (cl_len m a1) (cl_len m a2)]
    omega
  intro m hm
  obtain rfl | rfl | rfl | rfl : m = 0 ∨ m = 1 ∨ m = 2 ∨ m = 3 := by omega
  · exact fun hl => Nat.le_trans (h0 hl) (by decide)
  · exact fun hl => Nat.le_trans (up 0 0 (by decide) h0 hl) (by decide)
  · exact fun hl => Nat.le_trans (up 1 12 (by decide) (up 0 0 (by decide) h0) hl) (by decide)
  · exact fun hl => Nat.le_trans (up 2 36 (by decide) (up 1 12 (by decide) (up 0 0 (by decide) h0)) hl) (by decide)
theorem k_counted_lines_rec (D : Df K mg "counted_lines" s_counted_lines ["lines"]) (D_merged : Dn P w K mg base 5 "merged" ["one", "other"] ((spMerged K) 4)) : ∀ n : Nat, Dn P w K mg base (6 + n) "counted_lines" ["lines"] ((spCl K) n) := by
  intro n
  induction n with
  | zero => exact D.ok fun f fd F => ⟨fun vs H Q E h => (counted_lines_z B vs H Q E h).elim, fun _ _ _ _ h => (counted_lines_z B _ _ _ _ h).elim⟩
  | succ n D_counted_lines =>
    refine D.ok fun f fd F => okG0 (k := 6 + n) F sc_counted_lines (fun vs H Q E h => ?_) (fun cdv A outer s H vs Q E hr h => ⟨_, (pss_cons (ps_if (pt_cmpR op_eq (pe_callB (lenK (K := K)) (by rfl) B.len_ (by decide +kernel) (pa_cons (pv 0) pa_nil)) pe_int (nomark _))
      (pss_one (ps_ret (pe_tup (pa_cons (pe_lst pa_nil) (pa_cons (pv 0) pa_nil)))))
      pss_nil)
    (pss_cons (ps_set (i := 1) sc_counted_lines.nd rfl (Or.inl rfl) (pe_op op_fdivW (pe_callB (lenK (K := K)) (by rfl) B.len_ (by decide +kernel) (pa_cons (pv 0) pa_nil)) pe_int))
    (pss_cons (ps_asg (pe_cD D_counted_lines (hr.less (by omega)) rfl (pa_cons (pe_slice (kk (K := K) (F := rSlL) (P := L2.SlR _) sl_list) (pv 0) po_none (po_some (pv 1))) pa_nil)) (kk (K := K) (F := fun K => gTup K 2 _) (P := PG _ _) (pg_tup rfl (pgs_cons (pg_name (i := 2) sc_counted_lines.nd rfl (Or.inl rfl)) (pgs_cons (pg_name (i := 3) sc_counted_lines.nd rfl (Or.inl rfl)) pgs_nil)))))
    (pss_cons (ps_asg (pe_cD D_counted_lines (hr.less (by omega)) rfl (pa_cons (pe_slice (kk (K := K) (F := rSlL) (P := L2.SlR _) sl_list) (pv 0) (po_some (pv 1)) po_none) pa_nil)) (kk (K := K) (F := fun K => gTup K 2 _) (P := PG _ _) (pg_tup rfl (pgs_cons (pg_name (i := 4) sc_counted_lines.nd rfl (Or.inl rfl)) (pgs_cons (pg_name (i := 5) sc_counted_lines.nd rfl (Or.inl rfl)) pgs_nil)))))
    (pss_cons (ps_asg (pe_cD D_merged (hr.less (by omega)) rfl (pa_cons (pv 3) (pa_cons (pv 5) pa_nil))) (kk (K := K) (F := fun K => gTup K 2 _) (P := PG _ _) (pg_tup rfl (pgs_cons (pg_name (i := 6) sc_counted_lines.nd rfl (Or.inl rfl)) (pgs_cons (pg_name (i := 7) sc_counted_lines.nd rfl (Or.inl rfl)) pgs_nil)))))
    (pss_one (ps_ret (pe_tup (pa_cons (pe_op op_cat (pe_op op_cat (pv 2) (pv 4)) (pv 6)) (pa_cons (pv 7) pa_nil)))))))))), ?_⟩)
    · obtain ⟨o, ls, m, rfl, _⟩ := h; rfl
    · obtain ⟨o, ls, m, rfl, h1, la, hm, h3, q⟩ := h
      refine ⟨_, rfl, o, _, rfl, .inl (SqL.of h1), rfl, _, rfl, ite2 (fun c => ?_) (fun c => ?_)⟩
      · have hm0 : m = 0 := by
          have e := V.int.inj (of_decide_eq_true c)
          rw [iN_len, la] at e
          rcases Nat.eq_zero_or_pos m with e2 | e2
          · exact e2
          · have := Nat.one_lt_two_pow (n := m) (by omega); omega
        subst hm0
        refine ⟨sz, fun L1 hL1 => ⟨_, rfl, sz, fun T hT => ?_⟩⟩
        have S1 := same_new hL1 (.lst [])
        have S2 := same_new hT (.tup [.ref L1, .ref o])
        exact q T _ (S1.trans S2) ⟨L1, o, upd_same, ⟨[], S2 _ _ upd_same, rfl, fun j t p h => by simp at h⟩, S2 _ _ (S1 _ _ h1)⟩ (fun M1 M2 h => by
          rw [upd_same] at h
          cases (HO.tup.inj (Option.some.inj h))
          exact .inr rfl)
      · obtain ⟨k, rfl⟩ : ∃ k, m = k + 1 := by
          rcases Nat.eq_zero_or_pos m with e2 | e2
          · subst e2
            exact absurd (decide_eq_true (by rw [iN_len, la] <;> rfl)) c
          · exact ⟨m - 1, by omega⟩
        obtain ⟨e1, e2⟩ := two_pow_even k
        have e3 : 2 ^ (k + 1) = 2 ^ k + 2 ^ k := by rw [Nat.pow_succ]; omega
        have eh : ((((iN ls).map V.int).length : Nat) : Int) / 2 = ((2 ^ k : Nat) : Int) := by rw [iN_len, la]; omega
        have a1 : (ls.take (2 ^ k)).length = 2 ^ k := by rw [List.length_take]; omega
        have a2 : (ls.drop (2 ^ k)).length = 2 ^ k := by rw [List.length_drop]; omega
        have ct : cutV ((iN ls).map V.int) none (some (((((iN ls).map V.int).length : Nat) : Int) / 2)) = (iN (ls.take (2 ^ k))).map V.int := by
          rw [eh, cut_to]; unfold iN; rw [List.map_take, List.map_take]
        have cf : cutV ((iN ls).map V.int) (some (((((iN ls).map V.int).length : Nat) : Int) / 2)) none = (iN (ls.drop (2 ^ k))).map V.int := by
          rw [eh, cut_from]; unfold iN; rw [List.map_drop, List.map_drop]
        refine ⟨_, rfl, o, _, rfl, .inl (SqL.of h1), _, _, rfl, rfl, ⟨by decide, by decide⟩, ?_⟩
        refine ⟨_, rfl, _, rfl, _, rfl, o, _, rfl, SqL.of h1, fun p1 hp1 => ?_⟩
        have S1 := same_new hp1 (.lst (cutV ((iN ls).map V.int) none (some (((((iN ls).map V.int).length : Nat) : Int) / 2))))
        refine ⟨p1, ls.take (2 ^ k), k, rfl, by rw [upd_same, ← ct], a1, by omega, by omega, fun T1 H1 S2 hT1 _ => ?_⟩
        obtain ⟨L1, U1, hT1, hL1, hU1⟩ := hT1
        have S12 := S1.trans S2
        clear S1 S2 hp1
        refine ⟨T1, _, rfl, SqT.of hT1, rfl, _, _, rfl, _, _, rfl, rfl, ?_⟩
        refine ⟨_, rfl, _, rfl, _, rfl, o, _, rfl, SqL.of (S12 _ _ h1), fun p2 hp2 => ?_⟩
        have S3 := same_new hp2 (.lst (cutV ((iN ls).map V.int) (some (((((iN ls).map V.int).length : Nat) : Int) / 2)) none))
        refine ⟨p2, ls.drop (2 ^ k), k, rfl, by rw [upd_same, ← cf], a2, by omega, by omega, fun T2 H2 S4 hT2 _ => ?_⟩
        obtain ⟨L2, U2, hT2, hL2, hU2⟩ := hT2
        have S34 := S3.trans S4
        clear S3 S4 hp2
        refine ⟨T2, _, rfl, SqT.of hT2, rfl, _, _, rfl, _, _, rfl, rfl, ?_⟩
        refine ⟨_, rfl, _, rfl, U1, U2, _, _, k, rfl, S34 _ _ hU1, hU2, cl_len k a1, cl_len k a2, by omega, by omega, fun T3 H3 S5 hT3 fr3 => ?_⟩
        obtain ⟨L3, U3, hT3, hL3, hU3⟩ := hT3
        have fU3 := (S12.trans S34).free (fr3 _ _ hT3)
        refine ⟨T3, _, rfl, SqT.of hT3, rfl, _, _, rfl, _, _, rfl, rfl, ?_⟩
        obtain ⟨t1s, hL1a, hL1b⟩ := (hL1.same S34).same S5
        obtain ⟨t2s, hL2a, hL2b⟩ := hL2.same S5
        obtain ⟨t3s, hL3a, hL3b⟩ := hL3
        have c1 := hL1b.1
        have c2 := hL2b.1
        have c3 := hL3b.1
        have d1 := cl_tog k (by omega) a1
        have d2 := cl_tog k (by omega) a2
        have d3 := mg_tog k (cl_len k a1) (cl_len k a2)
        have hkm : (k + 1) * 2 ^ k ≤ 3 * 2 ^ 2 := Nat.mul_le_mul (by omega) (Nat.pow_le_pow_right (by decide) (by omega))
        refine ⟨_, rfl, _, rfl, L1, L2, _, _, rfl, rfl, hL1a, hL2a, small (by rw [List.length_map, List.length_map]; omega), fun L hL => ?_⟩
        have S6 := same_new hL (.lst (t1s.map V.ref ++ t2s.map V.ref))
        refine ⟨_, rfl, L, L3, _, _, rfl, rfl, upd_same, S6 _ _ hL3a, small (by rw [List.length_append, List.length_map, List.length_map, List.length_map]; omega), fun M hM => ?_⟩
        have S7 := same_new hM (.lst ((t1s.map V.ref ++ t2s.map V.ref) ++ t3s.map V.ref))
        refine ⟨_, rfl, sz, fun T hT => ?_⟩
        have S8 := same_new hT (.tup [.ref M, .ref U3])
        have S68 := S6.trans (S7.trans S8)
        refine q T _ (S12.trans (S34.trans (S5.trans S68))) ⟨M, U3, upd_same, ⟨t1s ++ t2s ++ t3s, ?_, ((hL1b.same S68).app (hL2b.same S68)).app (hL3b.same S68)⟩, S68 _ _ hU3⟩ (fun M1 M2 h => by
          rw [upd_same] at h
          cases (HO.tup.inj (Option.some.inj h))
          exact .inl fU3)
        rw [S8 _ _ upd_same, List.map_append, List.map_append]
theorem k_counted_lines (D : Df K mg "counted_lines" s_counted_lines ["lines"]) (D_merged : Dn P w K mg base 5 "merged" ["one", "other"] ((spMerged K) 4)) : Dn P w K mg base 10 "counted_lines" ["lines"] ((spCl K) 4) := k_counted_lines_rec B D D_merged 4
def spNetC (K : PySem.W.Frag) (N : Addr) : Sp := fun vs H Q E => ∃ (v : V) (d : PyData) (q : Addr), vs = [v] ∧ Th K q H v d ∧ (∀ k : Nat, d = .int k → k ≤ 3 → ∀ T H', Same H H' → MgAt H' T (cl k (List.range (2 ^ k))) → FrT H H' T → Q (.ref T) H') ∧ (isR d 0 3 = false → E (.ref N) none H)
theorem k_counting_net (D : Df K mg "counting_net" s_counting_net ["k"]) (D_want_net : DxD P w K mg base 3 "want_net" ["k", "deepest"] [.int 4] (spNetT K (cAt mg "NoNet"))) (D_want_net_all : DxD P w K mg base 3 "want_net" ["k", "deepest"] [] (spNetT K (cAt mg "NoNet"))) (D_counted_lines : Dn P w K mg base 10 "counted_lines" ["lines"] ((spCl K) 4)) : Dx P w K mg base 12 "counting_net" ["k"] (spNetC K (cAt mg "NoNet")) := by
  refine D.okX fun f fd F => okGX F sc_counting_net (fun vs H Q E h => ?_) (fun cdv A outer s H vs Q E hr h => ⟨_, (pss_cons (ps_expr (pe_cXd D_want_net_all (hr.less (by decide)) (takes_of rfl rfl rfl rfl) rfl (pa_cons (pv 0) (pa_cons (pe_glob (v := .int (3)) (u := .int (3) B.DEEPEST_.choose) (by rfl) B.DEEPEST_.choose_spec ⟨_, rfl⟩) pa_nil))))
    (pss_one (ps_ret (pe_cD D_counted_lines (hr.less (by decide)) rfl (pa_cons (pe_listRg rfl (by rfl) B.list_ (prg_1 rfl B.range_ (pe_op op_shlW pe_int (pv 0)))) pa_nil))))), ?_⟩)
  · obtain ⟨v, d, q, rfl, _⟩ := h; rfl
  · obtain ⟨v, d, q, rfl, hd, q1, q2⟩ := h
    try walk_at "go"
    refine ⟨fun c1 => ?_, q2⟩
    obtain ⟨k, rfl, k0, k4⟩ := isR_inv c1
    cases hd.int_inv
    obtain ⟨k, rfl⟩ : ∃ k' : Nat, k = (k' : Int) := ⟨k.toNat, by omega⟩
    have hk : k ≤ 3 := by omega
    replace q1 := q1 k rfl hk
    have eM : 2 ^ k ≤ 8 := (Nat.pow_le_pow_right (by decide) hk : 2 ^ k ≤ 2 ^ 3)
    have e0 := Int.natCast_nonneg (2 ^ k)
    refine ⟨_, rfl, _, _, rfl, rfl, shl_ok (by omega), _, rfl, ?_, fun p hp => ?_⟩
    · rw [shl_eq]; exact RgOk.of_le (by decide) (by omega) (by decide) (by omega)
    have erg : rgV 0 (1 * 2 ^ ((k : Int)).toNat) = (iN (List.range (2 ^ k))).map V.int := by
      unfold rgV iN
      rw [shl_eq, show (((2 ^ k : Nat) : Int) - 0).toNat = 2 ^ k by omega, List.map_map]
      exact List.map_congr_left fun x _ => by rw [Int.zero_add] <;> rfl
    rw [erg]
    exact ⟨p, List.range (2 ^ k), k, rfl, upd_same, List.length_range, by omega, hk, fun T H' S hT fr => q1 T H' ((same_new hp _).trans S) hT (fun L1 L2 h => (fr L1 L2 h).elim (fun e => (same_new hp _).free e) (fun e => by rw [e]; exact hp))⟩
def spTogT (K : PySem.W.Frag) (N : Addr) : Sp := fun vs H Q E => ∃ (v : V) (d : PyData) (q : Addr), vs = [v] ∧ Th K q H v d ∧ (isR d 0 3 = true → ∀ x H', Same H H' → Q x H') ∧ (isR d 0 3 = false → E (.ref N) none H)
theorem k_toggles (D : Df K mg "toggles" s_toggles ["k"]) (D_counting_net : Dx P w K mg base 12 "counting_net" ["k"] (spNetC K (cAt mg "NoNet"))) : Dx P w K mg base 13 "toggles" ["k"] (spTogT K (cAt mg "NoNet")) := by
  refine D.okX fun f fd F => okGX F sc_toggles (fun vs H Q E h => ?_) (fun cdv A outer s H vs Q E hr h => ⟨_, (pss_one (ps_ret (pe_callTy (tupOfK (K := K)) (by rfl) B.tuple_ (by decide +kernel) (pa_cons (pe_ix (kk (K := K) (F := rIxT) (P := IxR _) ix_tup) (pe_cW D_counting_net (hr.less (by decide)) (takes_of rfl rfl rfl rfl) rfl (pa_cons (pv 0) pa_nil)) pe_int (fun _ _ => rfl)) pa_nil)))), ?_⟩)
  · obtain ⟨v, d, q, rfl, _⟩ := h; rfl
  · obtain ⟨v, d, q, rfl, hd, q1, q2⟩ := h
    try walk_at "go"
    refine ⟨fun k hk k3 T H1 S1 hT _ => ?_, q2⟩
    obtain ⟨L1, U1, hT, ⟨ts, hL, hp⟩, hU⟩ := hT
    refine ⟨T, _, _, _, rfl, rfl, SqT.of hT, at_of (j := 0) rfl rfl, L1, _, rfl, .inl ⟨SqL.of hL, fun U hU2 => ?_⟩⟩
    exact q1 (hk ▸ isR_mk (by omega) (by omega)) _ _ (S1.trans (same_new hU2 _))
theorem k_counted (D : Df K mg "counted" s_counted ["k"]) (D_counting_net : Dx P w K mg base 12 "counting_net" ["k"] (spNetC K (cAt mg "NoNet"))) : Dx P w K mg base 13 "counted" ["k"] (spTogT K (cAt mg "NoNet")) := by
  refine D.okX fun f fd F => okGX F sc_counted (fun vs H Q E h => ?_) (fun cdv A outer s H vs Q E hr h => ⟨_, (pss_one (ps_ret (pe_callTy (tupOfK (K := K)) (by rfl) B.tuple_ (by decide +kernel) (pa_cons (pe_ix (kk (K := K) (F := rIxT) (P := IxR _) ix_tup) (pe_cW D_counting_net (hr.less (by decide)) (takes_of rfl rfl rfl rfl) rfl (pa_cons (pv 0) pa_nil)) pe_int (fun _ _ => rfl)) pa_nil)))), ?_⟩)
  · obtain ⟨v, d, q, rfl, _⟩ := h; rfl
  · obtain ⟨v, d, q, rfl, hd, q1, q2⟩ := h
    try walk_at "go"
    refine ⟨fun k hk k3 T H1 S1 hT _ => ?_, q2⟩
    obtain ⟨L1, U1, hT, _, hU⟩ := hT
    refine ⟨T, _, _, _, rfl, rfl, SqT.of hT, at_of (j := 1) rfl rfl, U1, _, rfl, .inl ⟨SqL.of hU, fun U hU2 => ?_⟩⟩
    exact q1 (hk ▸ isR_mk (by omega) (by omega)) _ _ (S1.trans (same_new hU2 _))
omit B in
theorem net_len : ∀ k, k < 4 → (cl k (List.range (2 ^ k))).1.length ≤ 100 ∧ (cl k (List.range (2 ^ k))).2.length = 2 ^ k := by decide +kernel
omit B in
theorem net_row : ∀ k, k < 4 → (∀ l, l < 2 ^ k → l ∈ (cl k (List.range (2 ^ k))).2) ∧ (∀ pr ∈ (cl k (List.range (2 ^ k))).1, pr.1 ∈ (cl k (List.range (2 ^ k))).2 ∧ pr.2 ∈ (cl k (List.range (2 ^ k))).2) := by decide +kernel
omit B in
theorem rep_flat1 (n : Nat) (x : V) : (List.replicate n [x]).flatten = List.replicate n x := by
  induction n with
  | zero => rfl
  | succ n ih => rw [List.replicate_succ, List.flatten_cons, ih, List.replicate_succ] <;> rfl
def spCtIT (K : PySem.W.Frag) (C N : Addr) : Sp := fun vs H Q E => ∃ (p dx : Addr) (v : V) (d : PyData) (z : Addr), vs = [.ref p, v] ∧ H p = some (.ins C dx []) ∧ Th K z H v d ∧ (isR d 0 3 = true → ∀ H', But p H H' → Q .non H') ∧ (isR d 0 3 = false → E (.ref N) none H)
theorem k_Counter____init__ (D : DfI K (cAt mg "Counter") "Counter.__init__" s_Counter____init__ ["self", "k"]) (D_counting_net : Dx P w K mg base 12 "counting_net" ["k"] (spNetC K (cAt mg "NoNet"))) : DxI P w K mg base (cAt mg "Counter") 13 ["self", "k"] (spCtIT K (cAt mg "Counter") (cAt mg "NoNet")) := by
  refine D.okX fun f fd F => okGX F sc_Counter____init__ (fun vs H Q E h => ?_) (fun cdv A outer s H vs Q E hr h => ⟨_, (pss_cons (ps_asg (pe_cW D_counting_net (hr.less (by decide)) (takes_of rfl rfl rfl rfl) rfl (pa_cons (pv 1) pa_nil)) (kk (K := K) (F := fun K => gTup K 2 _) (P := PG _ _) (pg_tup rfl (pgs_cons (kk (K := K) (F := fun K => gFld K _ _) (P := PG _ _) (pg_fld (pv 0))) (pgs_cons (pg_name (i := 2) sc_Counter____init__.nd rfl (Or.inl rfl)) pgs_nil)))))
    (pss_cons (kk (K := K) (F := fun K => sFld K _ _ _) (P := PS _ _) (ps_fld (pv 0) (pe_op op_rep (pe_lst (pa_cons pe_bl pa_nil)) (pe_callB (lenK (K := K)) (by rfl) B.len_ (by decide +kernel) (pa_cons (kk (K := K) (F := fun K => tFld K _ _) (P := PE _ _) (pe_fld (pv 0) rfl)) pa_nil))) rfl))
    (pss_cons (kk (K := K) (F := fun K => sFld K _ _ _) (P := PS _ _) (ps_fld (pv 0) (pv 2) rfl))
    (pss_cons (kk (K := K) (F := fun K => sFld K _ _ _) (P := PS _ _) (ps_fld (pv 0) (pe_op op_rep (pe_lst (pa_cons pe_int pa_nil)) (pe_callB (lenK (K := K)) (by rfl) B.len_ (by decide +kernel) (pa_cons (pv 2) pa_nil))) rfl))
    (pss_one (kk (K := K) (F := fun K => sFld K _ _ _) (P := PS _ _) (ps_fld (pv 0) (pe_lst pa_nil) rfl))))))), ?_⟩)
  · obtain ⟨p, dx, v, d, z, rfl, _⟩ := h; rfl
  · obtain ⟨p, dx, v, d, z, rfl, hp, hd, q1, q2⟩ := h
    have cl0 := B.Counter_.cl
    have nf := B.Counter_.no
    try walk_at "go"
    refine ⟨fun k ek hk T H1 S1 hT fr => ?_, q2⟩
    obtain ⟨n1, n2⟩ := net_len k (by omega)
    generalize cl k (List.range (2 ^ k)) = net at *
    obtain ⟨tg, row⟩ := net
    obtain ⟨P, R, hT, hP, hR⟩ := hT
    have hp1 := S1 _ _ hp
    refine ⟨T, _, rfl, SqT.of hT, rfl, _, _, rfl, _, rfl, p, _, dx, _, rfl, hp1, cl0, nf _ (by decide +kernel), by decide, _, _, rfl, rfl, ?_⟩
    have L1 : tg.length ≤ 100 := n1
    have L2 : row.length = 2 ^ k := n2
    have l16 : 2 ^ k ≤ 8 := by
      have := Nat.pow_le_pow_right (n := 2) (by omega) hk
      omega
    obtain ⟨ts, hPl, hts⟩ := hP
    have hp2 : ∀ D, H1 D = none → p ≠ D := fun D hD => ne_of_none hp1 hD
    have hT1 : ∀ D xs, H1 D = some (.lst xs) → p ≠ D := fun D xs hD => ne_of hp1 hD (by intro z; cases z)
    have k0 : ∀ (f : Str) (v : V), (putF f v ([] : List (Str × V))).length < 2 := fun f v => by have := length_putF f v []; have e : ([] : List (Str × V)).length = 0 := rfl; omega
    have kS : ∀ (f : Str) (v : V) (fs : List (Str × V)) (n : Nat), fs.length < n → (putF f v fs).length < n + 1 := fun f v fs n h => by have := length_putF f v fs; omega
    have kT : ∀ (fs : List (Str × V)) (n : Nat), fs.length < n → n ≤ 1000 → fs.length < 1000 := fun fs n h1 h2 => by omega
    have hPp : P ≠ p := Ne.symm (hT1 _ _ hPl)
    have hRp : R ≠ p := Ne.symm (hT1 _ _ hR)
    have bA : But p H1 (upd H1 p (.ins (cAt mg "Counter") dx (putF "pairs" (.ref P) []))) := But.upd
    have hpA := upd_same (H := H1) (a := p) (o := .ins (cAt mg "Counter") dx (putF "pairs" (.ref P) []))
    generalize upd H1 p (.ins (cAt mg "Counter") dx (putF "pairs" (.ref P) [])) = HA at bA hpA ⊢
    refine ⟨sz, fun l hl => ?_⟩
    have bB := bA.trans (same_but (p := p) (same_new hl (.lst [.bl true])))
    have hpB := same_new hl (.lst [.bl true]) _ _ hpA
    refine ⟨_, rfl, p, _, dx, _, _, rfl, hpB, cl0, nf _ (by decide +kernel), (by rw [lookup_putF, if_pos rfl] <;> rfl), P, _, rfl, .inl (SqL.of (bB _ _ hPp hPl)), ?_⟩
    have lt : (ts.map V.ref).length ≤ 100 := by rw [List.length_map, hts.1]; exact L1
    have s1k : 1000 ≤ sizeLine := by decide
    refine ⟨l, _, _, rfl, rfl, upd_same, by omega, by omega, Nat.le_trans (by show 1 * _ ≤ 1000; omega) s1k, fun U hU => ?_⟩
    have hlU : l ≠ U := ne_of_none upd_same hU
    have bC := bB.trans (same_but (p := p) (same_new hU (.lst (List.replicate (ts.map V.ref).length (.bl true)))))
    have hpC := same_new hU (.lst (List.replicate (ts.map V.ref).length (.bl true))) _ _ hpB
    rw [show ((((ts.map V.ref).length : Nat) : Int).toNat) = (ts.map V.ref).length by omega, rep_flat1]
    rw [List.length_map] at bC hpC ⊢
    have hUC := upd_same (H := upd HA l (.lst [.bl true])) (a := U) (o := .lst (List.replicate ts.length (.bl true)))
    generalize upd (upd HA l (.lst [.bl true])) U (.lst (List.replicate ts.length (.bl true))) = HC at bC hpC hUC ⊢
    have hUp : U ≠ p := ne_of hUC hpC (by intro z; cases z)
    refine ⟨_, rfl, p, _, dx, _, rfl, hpC, cl0, nf _ (by decide +kernel), kT _ _ (k0 _ _) (by decide), ?_⟩
    have bD := bC.trans (But.upd (p := p) (o := .ins (cAt mg "Counter") dx (putF "ups" (.ref U) (putF "pairs" (.ref P) []))))
    have hpD := upd_same (H := HC) (a := p) (o := .ins (cAt mg "Counter") dx (putF "ups" (.ref U) (putF "pairs" (.ref P) [])))
    have cD : But p HC _ := But.upd (p := p) (o := .ins (cAt mg "Counter") dx (putF "ups" (.ref U) (putF "pairs" (.ref P) [])))
    generalize upd HC p (.ins (cAt mg "Counter") dx (putF "ups" (.ref U) (putF "pairs" (.ref P) []))) = HD at bD hpD cD ⊢
    have hUD := cD _ _ hUp hUC
    refine ⟨_, rfl, _, rfl, p, _, dx, _, rfl, hpD, cl0, nf _ (by decide +kernel), kT _ _ (kS _ _ _ _ (k0 _ _)) (by decide), ?_⟩
    have cE : But p HD _ := But.upd (p := p) (o := .ins (cAt mg "Counter") dx (putF "row" (.ref R) (putF "ups" (.ref U) (putF "pairs" (.ref P) []))))
    have hpE := upd_same (H := HD) (a := p) (o := .ins (cAt mg "Counter") dx (putF "row" (.ref R) (putF "ups" (.ref U) (putF "pairs" (.ref P) []))))
    generalize upd HD p (.ins (cAt mg "Counter") dx (putF "row" (.ref R) (putF "ups" (.ref U) (putF "pairs" (.ref P) [])))) = HE at hpE cE ⊢
    have bE := bD.trans cE
    have hUE := cE _ _ hUp hUD
    refine ⟨sz, fun m hm => ?_⟩
    have eF := same_new hm (.lst [.int 0])
    have hmF := upd_same (H := HE) (a := m) (o := .lst [.int 0])
    generalize upd HE m (.lst [.int 0]) = HF at eF hmF ⊢
    have bF := bE.trans (same_but (p := p) eF)
    have hRF := bF _ _ hRp hR
    refine ⟨_, rfl, R, _, rfl, .inl (SqL.of hRF), ?_⟩
    have lR : ((iN row).map V.int).length = 2 ^ k := by rw [iN_len, L2]
    refine ⟨m, _, _, rfl, rfl, hmF, by rw [lR]; omega, by rw [lR]; omega, Nat.le_trans (by show 1 * _ ≤ 1000; rw [lR]; omega) s1k, fun M hM => ?_⟩
    rw [show ((((iN row).map V.int).length : Nat) : Int).toNat = 2 ^ k by rw [lR]; omega, rep_flat1]
    have eG := same_new hM (.lst (List.replicate (2 ^ k) (.int 0)))
    have hMG := upd_same (H := HF) (a := M) (o := .lst (List.replicate (2 ^ k) (.int 0)))
    generalize upd HF M (.lst (List.replicate (2 ^ k) (.int 0))) = HG at eG hMG ⊢
    have bG := bF.trans (same_but (p := p) eG)
    have hpG := eG _ _ (eF _ _ hpE)
    have hMp : M ≠ p := ne_of hMG hpG (by intro z; cases z)
    refine ⟨_, rfl, p, _, dx, _, rfl, hpG, cl0, nf _ (by decide +kernel), kT _ _ (kS _ _ _ _ (kS _ _ _ _ (k0 _ _))) (by decide), ?_⟩
    have cH : But p HG _ := But.upd (p := p) (o := .ins (cAt mg "Counter") dx (putF "many_out" (.ref M) (putF "row" (.ref R) (putF "ups" (.ref U) (putF "pairs" (.ref P) [])))))
    have hpH := upd_same (H := HG) (a := p) (o := .ins (cAt mg "Counter") dx (putF "many_out" (.ref M) (putF "row" (.ref R) (putF "ups" (.ref U) (putF "pairs" (.ref P) [])))))
    generalize upd HG p (.ins (cAt mg "Counter") dx (putF "many_out" (.ref M) (putF "row" (.ref R) (putF "ups" (.ref U) (putF "pairs" (.ref P) []))))) = HH at hpH cH ⊢
    have bH := bG.trans cH
    have hMH := cH _ _ hMp hMG
    refine ⟨sz, fun A' hA => ?_⟩
    have eI := same_new hA (.lst [])
    have hAI := upd_same (H := HH) (a := A') (o := .lst [])
    generalize upd HH A' (.lst []) = HI at eI hAI ⊢
    have bI := bH.trans (same_but (p := p) eI)
    have hpI := eI _ _ hpH
    have hAp : A' ≠ p := ne_of hAI hpI (by intro z; cases z)
    refine ⟨_, rfl, p, _, dx, _, rfl, hpI, cl0, nf _ (by decide +kernel), kT _ _ (kS _ _ _ _ (kS _ _ _ _ (kS _ _ _ _ (k0 _ _)))) (by decide), ?_⟩
    have cJ : But p HI _ := But.upd (p := p) (o := .ins (cAt mg "Counter") dx (cf ⟨dx, P, U, R, M, A'⟩))
    have hpJ := upd_same (H := HI) (a := p) (o := .ins (cAt mg "Counter") dx (cf ⟨dx, P, U, R, M, A'⟩))
    have bJ := bI.trans cJ
    exact q1 (ek ▸ isR_mk (by omega) (by omega)) _ ((same_but S1).trans bJ)
/-! SPLIT -/
omit B in
theorem menu4 {a b c d : Int} : ∀ j : Nat, j < 4 → ∃ z : Int, ([.int a, .int b, .int c, .int d] : List V)[j]? = some (.int z) ∧ (z = a ∨ z = b ∨ z = c ∨ z = d)
  | 0, _ => ⟨_, rfl, .inl rfl⟩
  | 1, _ => ⟨_, rfl, .inr (.inl rfl)⟩
  | 2, _ => ⟨_, rfl, .inr (.inr (.inl rfl))⟩
  | 3, _ => ⟨_, rfl, .inr (.inr (.inr rfl))⟩
  | n + 4, h => absurd h (by omega)
/-! ### the law's own draws -/
def spCell (K : PySem.W.Frag) : Sp := fun vs H Q _ => ∃ (a : Addr) (ns : List Int) (k : Nat), vs = [.ref a, .int k] ∧ SqL K H a (ns.map V.int) ∧ ∀ c : Int, Q (.int c) H
theorem k__law_cell (D : Df K mg "_law_cell" s__law_cell ["_law_script", "_law_k"]) : Dn P w K mg base 1 "_law_cell" ["_law_script", "_law_k"] (spCell K) := by
  refine D.ok fun f fd F => okG0 F sc__law_cell (fun vs H Q E h => ?_) (fun cdv A outer s H vs Q E hr h => ⟨_, (pss_cons (ps_if (pt_cmpR op_lt (pv 1) (pe_callB (lenK (K := K)) (by rfl) B.len_ (by decide +kernel) (pa_cons (pv 0) pa_nil)) (nomark _))
      (pss_one (ps_ret (pe_ix (kk (K := K) (F := rIxL) (P := IxR _) ix_list) (pv 0) (pv 1) (fun _ _ => rfl))))
      pss_nil)
    (pss_one (ps_ret pe_int))), ?_⟩)
  · obtain ⟨a, ns, k, rfl, _⟩ := h; rfl
  · obtain ⟨a, ns, k, rfl, hs, q⟩ := h
    refine ⟨_, rfl, _, rfl, a, _, rfl, .inl hs, _, _, rfl, rfl, _, rfl, ite2 (fun c => ?_) (fun c => ?_)⟩
    · have c' : (k : Int) < ((ns.map V.int).length : Nat) := of_decide_eq_true c
      have hk2 : k < ns.length := by rw [List.length_map] at c'; omega
      exact ⟨_, rfl, _, rfl, a, _, _, _, rfl, rfl, hs, at_of (j := k) rfl (by rw [List.getElem?_map, List.getElem?_eq_getElem hk2] <;> rfl), q _⟩
    · exact q 0
def spPot (K : PySem.W.Frag) : Sp := fun vs H Q _ => ∃ (a : Addr) (ns : List Int) (k : Nat), vs = [.ref a, .int k] ∧ SqL K H a (ns.map V.int) ∧ k ≤ 60 ∧ ∀ p H', H p = none → Same H H' → PotAt H' p → Q (.ref p) H'
theorem k__law_pot (D : Df K mg "_law_pot" s__law_pot ["_law_script", "_law_k"]) (D__law_cell : Dn P w K mg base 1 "_law_cell" ["_law_script", "_law_k"] (spCell K)) : Dn P w K mg base 2 "_law_pot" ["_law_script", "_law_k"] (spPot K) := by
  refine D.ok fun f fd F => okG0 F sc__law_pot (fun vs H Q E h => ?_) (fun cdv A outer s H vs Q E hr h => ⟨_, (pss_cons (ps_set (i := 2) sc__law_pot.nd rfl (Or.inl rfl) (pe_cD D__law_cell (hr.less (by decide)) rfl (pa_cons (pv 0) (pa_cons (pv 1) pa_nil))))
    (pss_cons (ps_set (i := 3) sc__law_pot.nd rfl (Or.inl rfl) (pe_op op_mod (pe_op op_mulX (pe_op op_add (pe_op op_mod (pv 2) pe_int) pe_int) pe_int) pe_int))
    (pss_one (ps_ret (pe_lst (pa_cons (pe_callB (call_max2 rfl) (by rfl) B.max_ (by decide +kernel) (pa_cons pe_int (pa_cons (pe_op op_sub (pv 2) (pe_op op_pow pe_int pe_int)) pa_nil))) (pa_cons (pe_op op_add (pe_op op_mod (pe_op op_add (pe_op op_mulX (pv 3) (pv 3)) (pe_op op_mulX pe_int (pv 1))) pe_int) pe_int) pa_nil))))))), ?_⟩)
  · obtain ⟨a, ns, k, rfl, _⟩ := h; rfl
  · obtain ⟨a, ns, k, rfl, hs, hk, q⟩ := h
    refine ⟨_, rfl, _, rfl, a, ns, k, rfl, hs, fun c => ?_⟩
    have m1 := Int.emod_nonneg c (by decide : (2147483629 : Int) ≠ 0)
    have m2 := Int.emod_lt_of_pos c (by decide : (0 : Int) < 2147483629)
    refine ⟨_, rfl, _, _, rfl, rfl, pj, _, _, rfl, rfl, _, _, rfl, rfl, mulx 32 16 (by omega) (by decide), _, _, rfl, rfl, pj, ?_⟩
    have g1 := Int.emod_nonneg ((c % 2147483629 + 1) * 48271) (by decide : (2147483647 : Int) ≠ 0)
    have g2 := Int.emod_lt_of_pos ((c % 2147483629 + 1) * 48271) (by decide : (0 : Int) < 2147483647)
    generalize (c % 2147483629 + 1) * 48271 % 2147483647 = g at g1 g2
    refine ⟨_, rfl, _, _, rfl, rfl, ⟨by decide, by decide, by decide⟩, _, _, rfl, rfl, _, _, rfl, ?_⟩
    refine ⟨_, rfl, _, rfl, _, _, rfl, rfl, mulx 32 32 (by omega) (by omega), _, rfl, _, _, rfl, rfl, mulx 13 10 (by decide) (by omega), _, _, rfl, rfl, _, _, rfl, rfl, pj, _, _, rfl, rfl, sz, fun p hp => ?_⟩
    have e1 := Int.emod_nonneg (g * g + 7919 * (k : Int)) (by decide : (2147483629 : Int) ≠ 0)
    have e2 := Int.emod_lt_of_pos (g * g + 7919 * (k : Int)) (by decide : (0 : Int) < 2147483629)
    refine q p _ hp (same_new hp _) ⟨_, _, upd_same, ?_, by omega, by omega⟩
    split <;> omega
def spTake : Sp := fun vs H Q _ => ∃ (p : Addr) (m : Int), vs = [.ref p, .int m] ∧ PotAt H p ∧ 1 ≤ m ∧ m < 2 ^ 200 ∧ ∀ (d : Int) H', 0 ≤ d → d < m → But p H H' → PotAt H' p → Q (.int d) H'
theorem k__law_draw (D : Df K mg "_law_draw" s__law_draw ["_law_pot_here", "_law_many"]) : Dn P w K mg base 1 "_law_draw" ["_law_pot_here", "_law_many"] spTake := by
  refine D.ok fun f fd F => okG0 F sc__law_draw (fun vs H Q E h => ?_) (fun cdv A outer s H vs Q E hr h => ⟨_, (pss_cons (ps_if (pt_cmpR op_gt (pe_ix (kk (K := K) (F := rIxL) (P := IxR _) ix_list) (pv 0) pe_int (fun _ _ => rfl)) pe_int (nomark _))
      (pss_cons (ps_asg (pe_callB call_divmodW (by rfl) B.divmod_ (by decide +kernel) (pa_cons (pe_ix (kk (K := K) (F := rIxL) (P := IxR _) ix_list) (pv 0) pe_int (fun _ _ => rfl)) (pa_cons (pv 1) pa_nil))) (kk (K := K) (F := fun K => gTup K 2 _) (P := PG _ _) (pg_tup rfl (pgs_cons (pg_sub (pv 0) pe_int set_list) (pgs_cons (pg_name (i := 2) sc__law_draw.nd rfl (Or.inl rfl)) pgs_nil)))))
      (pss_one (ps_ret (pv 2))))
      pss_nil)
    (pss_cons (ps_asg (pe_op op_mod (pe_op op_add (pe_op op_mulX (pe_ix (kk (K := K) (F := rIxL) (P := IxR _) ix_list) (pv 0) pe_int (fun _ _ => rfl)) pe_int) pe_int) pe_int) (pg_sub (pv 0) pe_int set_list))
    (pss_one (ps_ret (pe_op op_mod (pe_op op_fdivW (pe_op op_mod (pe_op op_mulX (pe_ix (kk (K := K) (F := rIxL) (P := IxR _) ix_list) (pv 0) pe_int (fun _ _ => rfl)) (pe_ix (kk (K := K) (F := rIxL) (P := IxR _) ix_list) (pv 0) pe_int (fun _ _ => rfl))) pe_int) pe_int) (pv 1)))))), ?_⟩)
  · obtain ⟨p, m, rfl, _⟩ := h; rfl
  · obtain ⟨p, m, rfl, ⟨a, b, hp, ha, hb, hb2⟩, hm, hm2, q⟩ := h
    refine ⟨_, rfl, p, _, _, _, rfl, rfl, SqL.of hp, at_of (j := 0) rfl rfl, _, _, rfl, rfl, _, rfl, ite2 (fun c => ?_) (fun c => ?_)⟩
    · refine ⟨_, rfl, p, _, _, _, rfl, rfl, SqL.of hp, at_of (j := 0) rfl rfl, _, rfl, _, _, rfl, divp_small (by omega) (Int.lt_trans hm2 (by decide)), fun t ht => ?_⟩
      have np : p ≠ t := ne_of_none hp ht
      refine ⟨t, _, rfl, SqT.of upd_same, rfl, _, _, rfl, _, rfl, p, _, _, _, rfl, rfl, by rw [upd_ne np]; exact hp, rfl, _, _, rfl, rfl, _, rfl, ?_⟩
      have h1 := Int.emod_nonneg a (by omega : m ≠ 0)
      have h2 := Int.emod_lt_of_pos a (by omega : 0 < m)
      have h3 := Int.ediv_nonneg ha (by omega : 0 ≤ m)
      exact q _ _ h1 h2 ((same_but (same_new ht _)).trans But.upd) ⟨_, _, upd_same, h3, hb, hb2⟩
    · have hm1 := Int.emod_nonneg (b * 39373 + 11) (by decide : (2147483647 : Int) ≠ 0)
      have hm3 := Int.emod_lt_of_pos (b * 39373 + 11) (by decide : (0 : Int) < 2147483647)
      refine ⟨_, rfl, p, _, _, _, rfl, rfl, SqL.of hp, at_of (j := 1) rfl rfl, _, _, rfl, rfl, mulx 40 16 (by omega) (by decide), _, _, rfl, rfl, _, _, rfl, rfl, pj, ?_⟩
      refine ⟨_, rfl, p, _, _, _, rfl, rfl, hp, rfl, ?_⟩
      refine ⟨_, rfl, p, _, _, _, rfl, rfl, SqL.of upd_same, at_of (j := 1) rfl rfl, _, rfl, p, _, _, _, rfl, rfl, SqL.of upd_same, at_of (j := 1) rfl rfl, _, _, rfl, rfl, mulx 31 31 (by omega) (by omega), ?_⟩
      refine ⟨_, _, rfl, rfl, pj, _, _, rfl, rfl, ⟨by decide, by decide⟩, _, rfl, _, _, rfl, rfl, hm, ?_⟩
      exact q _ _ (Int.emod_nonneg _ (by omega)) (Int.emod_lt_of_pos _ (by omega)) But.upd ⟨_, _, upd_same, ha, hm1, by omega⟩
local macro_rules | `(tactic| walk_at "own") => `(tactic| first | exact L2.Dp.int _ | exact L2.Dp.bl _ | exact L2.Dp.non | exact L2.ClsV.own _)
/-! ENDM -/
def spOdd (K : PySem.W.Frag) : Sp := fun vs H Q _ => ∃ (p : Addr) (mo : Option Int), vs = [.ref p, .int 0, oW mo] ∧ PotAt H p ∧ (∀ m, mo = some m → 0 ≤ m ∧ m ≤ 1000) ∧ ∀ v d H', But p H H' → PotAt H' p → ThL K (fun a => H a ≠ none) H' v d → isB d 0 mo = false → ib d ≤ 10 ^ 30 → Q v H'
theorem k__law_odd (D : Df K mg "_law_odd" s__law_odd ["_law_pot_here", "_law_least", "_law_most"]) (D__law_draw : Dn P w K mg base 1 "_law_draw" ["_law_pot_here", "_law_many"] spTake) : Dn P w K mg base 2 "_law_odd" ["_law_pot_here", "_law_least", "_law_most"] (spOdd K) := by
  refine D.ok fun f fd F => okG0 F sc__law_odd (fun vs H Q E h => ?_) (fun cdv A outer s H vs Q E hr h => ⟨_, (pss_cons (ps_set (i := 3) sc__law_odd.nd rfl (Or.inl rfl) (pe_op op_add pe_int (pe_cD D__law_draw (hr.less (by decide)) rfl (pa_cons (pv 0) (pa_cons (pe_op op_pow pe_int pe_int) pa_nil)))))
    (pss_cons (ps_set (i := 4) sc__law_odd.nd rfl (Or.inl rfl) (pe_lstS (pa_cons pe_non (pa_cons pe_bl (pa_cons pe_bl (pa_cons pe_str (pa_cons pe_str (pa_cons (pe_tup (pa_cons pe_int pa_nil)) (pa_cons (pe_lstS (pa_cons pe_int pa_nil)) (pa_cons pe_dnewK (pa_cons (pe_op op_sub (pv 1) pe_int) (pa_cons (pe_op op_sub (pv 1) (pv 3)) pa_nil))))))))))))
    (C8.pss_cut (ps_if (pt_cmpR op_notN (pv 2) pe_non (nomark _))
      (pss_one (ps_set (i := 4) sc__law_odd.nd rfl (Or.inl rfl) (pe_op op_cat (pv 4) (pe_lstS (pa_cons (pe_op op_add (pv 2) pe_int) (pa_cons (pe_op op_add (pv 2) (pv 3)) pa_nil))))))
      pss_nil)
    (pss_one (ps_ret (pe_ix (kk (K := K) (F := rIxL) (P := IxR _) ix_list) (pv 4) (pe_cD D__law_draw (hr.less (by decide)) rfl (pa_cons (pv 0) (pa_cons (pe_callB (lenK (K := K)) (by rfl) B.len_ (by decide +kernel) (pa_cons (pv 4) pa_nil)) pa_nil))) (fun _ _ => rfl))))))), ?_⟩)
  · obtain ⟨p, mo, rfl, _⟩ := h; rfl
  · obtain ⟨p, mo, rfl, hp, hm, q⟩ := h
    have cp : CPow 10 29 := ⟨by decide, by decide, by decide⟩
    try walk_at "go"
    intro g H1 g0 g1 b1 p1
    replace g1 : g < 10 ^ 29 := g1
    try walk_at "go"
    intro t1 ht1
    generalize eH2 : upd _ t1 _ = H2
    have SH2 := newS eH2 ht1
    have ot1 := newO eH2
    try walk_at "go"
    intro t2 ht2
    generalize eH3 : upd _ t2 _ = H3
    have SH3 := newS eH3 ht2
    have ot2 := newO eH3
    intro s3
    try walk_at "go"
    intro t3 ht3
    generalize eH4 : upd _ t3 _ = H4
    have SH4 := newS eH4 ht3
    have ot3 := newO eH4
    try walk_at "go"
    intro L hL
    generalize eH5 : upd _ L _ = H5
    have SH5 := newS eH5 hL
    have oL := newO eH5
    intro s5
    have p5 := p1.same (SH2.trans (SH3.trans (SH4.trans SH5)))
    have nL : L ≠ p := pot_ne (p1.same (SH2.trans (SH3.trans SH4))) hL
    have nt2 : ¬ H t2 ≠ none := fun z => z ((b1.trans (same_but SH2)).free (pot_ne (p1.same SH2) ht2) ht2)
    let tr0 : List (V × PyData) := [(.non, .none), (.bl true, .bool true), (.bl false, .bool false), (.str "1", .str "1"), (.str "", .str ""), (.ref t1, .tuple [.int 1]), (.ref t2, .list [.int 1]), (.ref t3, .dict []), (.int (0 - 1), .int (0 - 1)), (.int (0 - (1 + g)), .int (0 - (1 + g)))]
    have all0 : ∀ t ∈ tr0, ThL K (fun a => H a ≠ none) H5 t.1 t.2 ∧ isB t.2 0 mo = false ∧ ib t.2 ≤ 10 ^ 30 := fun t ht => by
      simp only [tr0, List.mem_cons, List.not_mem_nil, or_false] at ht
      rcases ht with rfl | rfl | rfl | rfl | rfl | rfl | rfl | rfl | rfl | rfl
      · exact ⟨.non, isB_no rfl, Nat.zero_le _⟩
      · exact ⟨.bl _, isB_no rfl, Nat.zero_le _⟩
      · exact ⟨.bl _, isB_no rfl, Nat.zero_le _⟩
      · exact ⟨.str _, isB_no rfl, Nat.zero_le _⟩
      · exact ⟨.str _, isB_no rfl, Nat.zero_le _⟩
      · refine ⟨ThL.tup (tr := [(.int 1, .int 1)]) (SH5 _ _ (SH4 _ _ (SH3 _ _ ot1))) fun t h => ?_, isB_no rfl, by show max 1 0 ≤ 10 ^ 30; decide⟩
        cases List.mem_singleton.mp h
        exact .int _
      · refine ⟨ThL.lst (tr := [(.int 1, .int 1)]) nt2 s3 (SH5 _ _ (SH4 _ _ ot2)) fun t h => ?_, isB_no rfl, by show max 1 0 ≤ 10 ^ 30; decide⟩
        cases List.mem_singleton.mp h
        exact .int _
      · exact ⟨ThL.dct (tr := []) (SH5 _ _ ot3) fun t h => absurd h List.not_mem_nil, isB_no rfl, Nat.zero_le _⟩
      · exact ⟨.int _, isB_low (by decide), by show (0 - 1 : Int).natAbs ≤ 10 ^ 30; decide⟩
      · exact ⟨.int _, isB_low (by omega), by show (0 - (1 + g) : Int).natAbs ≤ 10 ^ 30; omega⟩
    have oL' : H5 L = some (.lst (tr0.map fun t => t.1)) := oL
    clear oL eH5
    have l0 : 1 ≤ tr0.length ∧ tr0.length ≤ 18 := ⟨by show 1 ≤ 10; decide, by show 10 ≤ 18; decide⟩
    clear_value tr0
    have B5 : But p H H5 := b1.trans (same_but (SH2.trans (SH3.trans (SH4.trans SH5))))
    try walk_at "go"
    refine ⟨fun σ H' => Kept (∃ (L : Addr) (tr : List (V × PyData)), σ = [some (.ref p), some (.int 0), some (oW mo), some (.int (1 + g)), some (.ref L)] ∧ Same H5 H' ∧ L ≠ p ∧ H' L = some (.lst (tr.map fun t => t.1)) ∧ (∀ t ∈ tr, ThL K (fun a => H a ≠ none) H' t.1 t.2 ∧ isB t.2 0 mo = false ∧ ib t.2 ≤ 10 ^ 30) ∧ 1 ≤ tr.length ∧ tr.length ≤ 20), ?_, ?_⟩
    · cases mo with
      | none =>
        try walk_at "go"
        exact ⟨⟨L, tr0, rfl, Same.refl _, nL, oL', all0, l0.1, by omega⟩⟩
      | some m =>
        obtain ⟨m0, m1⟩ := hm m rfl
        try walk_at "go"
        intro M hM
        generalize eH6 : upd _ M _ = H6
        have SH6 := newS eH6 hM
        have oM := newO eH6
        intro s6
        have oL6 := SH6 _ _ oL'
        have lz : (tr0.map fun t => t.1).length + [(fun i j : Int => V.int (i + j)) m 1, (fun i j : Int => V.int (i + j)) m (1 + g)].length ≤ sizeLine := by
          rw [List.length_map]
          show tr0.length + 2 ≤ sizeLine
          exact Nat.le_trans (show tr0.length + 2 ≤ 100 by omega) (by decide)
        try walk_at "go"
        intro L2 hL2
        generalize eH7 : upd _ L2 _ = H7
        have SH7 := newS eH7 hL2
        have oL2 := newO eH7
        have n2 : L2 ≠ p := pot_ne (p5.same SH6) hL2
        refine ⟨⟨L2, tr0 ++ [(.int (m + 1), .int (m + 1)), (.int (m + (1 + g)), .int (m + (1 + g)))], rfl, SH6.trans SH7, n2, by rw [oL2, List.map_append] <;> rfl, fun t ht => ?_, by rw [List.length_append]; exact Nat.le_trans l0.1 (Nat.le_add_right _ _), by rw [List.length_append]; show tr0.length + 2 ≤ 20; omega⟩⟩
        rcases List.mem_append.mp ht with ht | ht
        · obtain ⟨g1, g2, g3⟩ := all0 t ht
          exact ⟨g1.same (SH6.trans SH7), g2, g3⟩
        · simp only [List.mem_cons, List.not_mem_nil, or_false] at ht
          rcases ht with rfl | rfl
          · exact ⟨.int _, isB_hi (by omega), by show (m + 1).natAbs ≤ 10 ^ 30; omega⟩
          · exact ⟨.int _, isB_hi (by omega), by show (m + (1 + g)).natAbs ≤ 10 ^ 30; omega⟩
    rintro _ H6 ⟨L, tr, rfl, S6, nL, hL, hall, l1, l2⟩
    have lm : (tr.map fun t => t.1).length = tr.length := List.length_map _
    have p6 := p5.same S6
    try walk_at "go"
    intro e0 H7 e1 e2 be pe
    rw [lm] at e2
    obtain ⟨e, rfl⟩ : ∃ e : Nat, e0 = (e : Int) := ⟨e0.toNat, by omega⟩
    have el : e < tr.length := by omega
    have hLe := be _ _ nL hL
    have ae : atI (tr.map fun t => t.1) (e : Int) = some tr[e].1 := atI_nat (by rw [List.getElem?_map, List.getElem?_eq_getElem el] <;> rfl)
    try walk_at "go"
    obtain ⟨g1, g2, g3⟩ := hall _ (List.getElem_mem el)
    exact q _ _ H7 (B5.trans ((same_but S6).trans be)) pe (g1.but (show H p ≠ none by rw [hp.choose_spec.choose_spec.1]; exact fun z => by cases z) be p6.choose_spec.choose_spec.1) g2 g3
def spKinds (K : PySem.W.Frag) : Sp := fun vs H Q _ => ∃ w : Nat, vs = [.int w] ∧ w < 7 ∧ ∀ L H', Same H H' → H' L = some (.lst ((kn w).map fun c => V.str (nm c))) → Q (.ref L) H'
theorem k__law_kinds (D : Df K mg "_law_kinds" s__law_kinds ["_law_which"]) : Dn P w K mg base 1 "_law_kinds" ["_law_which"] (spKinds K) := by
  refine D.ok fun f fd F => okG0 F sc__law_kinds (fun vs H Q E h => ?_) (fun cdv A outer s H vs Q E hr h => ⟨_, (pss_one (ps_ret (pe_ix (kk (K := K) (F := rIxL) (P := IxR _) ix_list) (pe_lst (pa_cons (pe_lst (pa_cons pe_str (pa_cons pe_str pa_nil))) (pa_cons (pe_lst (pa_cons pe_str (pa_cons pe_str pa_nil))) (pa_cons (pe_lst (pa_cons pe_str (pa_cons pe_str (pa_cons pe_str pa_nil)))) (pa_cons (pe_lst (pa_cons pe_str (pa_cons pe_str (pa_cons pe_str (pa_cons pe_str pa_nil))))) (pa_cons (pe_lst (pa_cons pe_str pa_nil)) (pa_cons (pe_lst (pa_cons pe_str pa_nil)) (pa_cons (pe_lst (pa_cons pe_str pa_nil)) pa_nil)))))))) (pv 0) (fun _ _ => rfl)))), ?_⟩)
  · obtain ⟨w, rfl, _⟩ := h; rfl
  · obtain ⟨w, rfl, hw, q⟩ := h
    try walk_at "go"
    intro A0 hA0
    generalize eH1 : upd _ A0 _ = H1
    have SH1 := newS eH1 hA0
    have oA0 := newO eH1
    try walk_at "go"
    intro A1 hA1
    generalize eH2 : upd _ A1 _ = H2
    have SH2 := newS eH2 hA1
    have oA1 := newO eH2
    try walk_at "go"
    intro A2 hA2
    generalize eH3 : upd _ A2 _ = H3
    have SH3 := newS eH3 hA2
    have oA2 := newO eH3
    try walk_at "go"
    intro A3 hA3
    generalize eH4 : upd _ A3 _ = H4
    have SH4 := newS eH4 hA3
    have oA3 := newO eH4
    try walk_at "go"
    intro A4 hA4
    generalize eH5 : upd _ A4 _ = H5
    have SH5 := newS eH5 hA4
    have oA4 := newO eH5
    try walk_at "go"
    intro A5 hA5
    generalize eH6 : upd _ A5 _ = H6
    have SH6 := newS eH6 hA5
    have oA5 := newO eH6
    try walk_at "go"
    intro A6 hA6
    generalize eH7 : upd _ A6 _ = H7
    have SH7 := newS eH7 hA6
    have oA6 := newO eH7
    try walk_at "go"
    intro D hD
    generalize eH8 : upd _ D _ = H8
    have SH8 := newS eH8 hD
    have oD := newO eH8
    obtain ⟨r, ixr, hr8⟩ : ∃ r, atI [V.ref A0, V.ref A1, V.ref A2, V.ref A3, V.ref A4, V.ref A5, V.ref A6] (w : Int) = some (.ref r) ∧ H8 r = some (.lst ((kn w).map fun c => V.str (nm c))) := by
      rcases (show w = 0 ∨ w = 1 ∨ w = 2 ∨ w = 3 ∨ w = 4 ∨ w = 5 ∨ w = 6 by omega) with rfl | rfl | rfl | rfl | rfl | rfl | rfl
      · exact ⟨A0, rfl, SH8 _ _ (SH7 _ _ (SH6 _ _ (SH5 _ _ (SH4 _ _ (SH3 _ _ (SH2 _ _ oA0))))))⟩
      · exact ⟨A1, rfl, SH8 _ _ (SH7 _ _ (SH6 _ _ (SH5 _ _ (SH4 _ _ (SH3 _ _ oA1)))))⟩
      · exact ⟨A2, rfl, SH8 _ _ (SH7 _ _ (SH6 _ _ (SH5 _ _ (SH4 _ _ oA2))))⟩
      · exact ⟨A3, rfl, SH8 _ _ (SH7 _ _ (SH6 _ _ (SH5 _ _ oA3)))⟩
      · exact ⟨A4, rfl, SH8 _ _ (SH7 _ _ (SH6 _ _ oA4))⟩
      · exact ⟨A5, rfl, SH8 _ _ (SH7 _ _ oA5)⟩
      · exact ⟨A6, rfl, SH8 _ _ oA6⟩
    try walk_at "go"
    exact q _ _ (SH1.trans (SH2.trans (SH3.trans (SH4.trans (SH5.trans (SH6.trans (SH7.trans SH8))))))) hr8
def spBnd (K : PySem.W.Frag) : Sp := fun vs H Q _ => ∃ (s : Str) (c k : Nat), vs = [.str s, .int k] ∧ s = nm c ∧ c < 5 ∧ k ≤ 4 ∧ ∀ T H', Same H H' → H' T = some (.tup [.int 0, oW (hiB c k)]) → Q (.ref T) H'
theorem k__law_bounds (D : Df K mg "_law_bounds" s__law_bounds ["_law_kind", "_law_k"]) : Dn P w K mg base 1 "_law_bounds" ["_law_kind", "_law_k"] (spBnd K) := by
  refine D.ok fun f fd F => okG0 F sc__law_bounds (fun vs H Q E h => ?_) (fun cdv A outer s H vs Q E hr h => ⟨_, (pss_cons (ps_if (pt_cmpR op_eq (pv 0) pe_str (nomark _))
      (pss_one (ps_ret (pe_tup (pa_cons pe_int (pa_cons pe_int pa_nil)))))
      pss_nil)
    (pss_cons (ps_if (pt_cmpR op_eq (pv 0) pe_str (nomark _))
      (pss_one (ps_ret (pe_tup (pa_cons pe_int (pa_cons pe_int pa_nil)))))
      pss_nil)
    (pss_cons (ps_if (pt_cmpR op_eq (pv 0) pe_str (nomark _))
      (pss_one (ps_ret (pe_tup (pa_cons pe_int (pa_cons (pe_op op_sub (pe_op op_shlW pe_int (pv 1)) pe_int) pa_nil)))))
      pss_nil)
    (pss_cons (ps_if (pt_cmpR op_eq (pv 0) pe_str (nomark _))
      (pss_one (ps_ret (pe_tup (pa_cons pe_int (pa_cons pe_int pa_nil)))))
      pss_nil)
    (pss_one (ps_ret (pe_tup (pa_cons pe_int (pa_cons pe_non pa_nil))))))))), ?_⟩)
  · obtain ⟨s, c, k, rfl, _⟩ := h; rfl
  · obtain ⟨s, c, k, rfl, rfl, hc, hk, q⟩ := h
    have csh : CShl 1 (k : Int) := shl_ok (by omega)
    rcases (show c = 0 ∨ c = 1 ∨ c = 2 ∨ c = 3 ∨ c = 4 by omega) with rfl | rfl | rfl | rfl | rfl
    · try walk_at "go"
      intro T hT
      generalize eH1 : upd _ T _ = H1
      have SH1 := newS eH1 hT
      have oT := newO eH1
      exact q _ _ SH1 oT
    · try walk_at "go"
      intro T hT
      generalize eH1 : upd _ T _ = H1
      have SH1 := newS eH1 hT
      have oT := newO eH1
      exact q _ _ SH1 oT
    · try walk_at "go"
      intro T hT
      generalize eH1 : upd _ T _ = H1
      have SH1 := newS eH1 hT
      have oT := newO eH1
      exact q _ _ SH1 (by rw [oT]; show some (HO.tup [V.int 0, V.int (1 * 2 ^ ((k : Int)).toNat - 1)]) = _; rw [shl_eq] <;> rfl)
    · try walk_at "go"
      intro T hT
      generalize eH1 : upd _ T _ = H1
      have SH1 := newS eH1 hT
      have oT := newO eH1
      exact q _ _ SH1 oT
    · try walk_at "go"
      intro T hT
      generalize eH1 : upd _ T _ = H1
      have SH1 := newS eH1 hT
      have oT := newO eH1
      exact q _ _ SH1 oT
def spGood (K : PySem.W.Frag) : Sp := fun vs H Q _ => ∃ (p T : Addr) (mo : Option Int), vs = [.ref p, .ref T] ∧ PotAt H p ∧ H T = some (.tup [.int 0, oW mo]) ∧ (∀ m, mo = some m → 0 ≤ m ∧ m ≤ 1000) ∧ ∀ x H', But p H H' → PotAt H' p → isB (.int x) 0 mo = true → x ≤ 10 ^ 30 → Q (.int x) H'
theorem k__law_good (D : Df K mg "_law_good" s__law_good ["_law_pot_here", "_law_bounds_here"]) (D__law_draw : Dn P w K mg base 1 "_law_draw" ["_law_pot_here", "_law_many"] spTake) : Dn P w K mg base 2 "_law_good" ["_law_pot_here", "_law_bounds_here"] (spGood K) := by
  refine D.ok fun f fd F => okG0 F sc__law_good (fun vs H Q E h => ?_) (fun cdv A outer s H vs Q E hr h => ⟨_, (pss_cons (ps_asg (pv 1) (kk (K := K) (F := fun K => gTup K 2 _) (P := PG _ _) (pg_tup rfl (pgs_cons (pg_name (i := 2) sc__law_good.nd rfl (Or.inl rfl)) (pgs_cons (pg_name (i := 3) sc__law_good.nd rfl (Or.inl rfl)) pgs_nil)))))
    (pss_cons (ps_if (pt_cmpR op_isN (pv 3) pe_non (nomark _))
      (pss_one (ps_ret (pe_cD D__law_draw (hr.less (by decide)) rfl (pa_cons (pv 0) (pa_cons (pe_ix (kk (K := K) (F := rIxL) (P := IxR _) ix_list) (pe_lst (pa_cons pe_int (pa_cons (pe_op op_pow pe_int pe_int) pa_nil))) (pe_cD D__law_draw (hr.less (by decide)) rfl (pa_cons (pv 0) (pa_cons pe_int pa_nil))) (fun _ _ => rfl)) pa_nil)))))
      pss_nil)
    (pss_one (ps_ret (pe_op op_add (pv 2) (pe_cD D__law_draw (hr.less (by decide)) rfl (pa_cons (pv 0) (pa_cons (pe_op op_add (pe_op op_sub (pv 3) (pv 2)) pe_int) pa_nil)))))))), ?_⟩)
  · obtain ⟨p, T, mo, rfl, _⟩ := h; rfl
  · obtain ⟨p, T, mo, rfl, hp, hT, hm, q⟩ := h
    try walk_at "go"
    cases mo with
    | none =>
      have cp : CPow 10 30 := ⟨by decide, by decide, by decide⟩
      try walk_at "go"
      intro L hL
      generalize eH1 : upd _ L _ = H1
      have SH1 := newS eH1 hL
      have oL := newO eH1
      have p1 := hp.same SH1
      try walk_at "go"
      intro e H2 e0 e1 b2 p2
      have oL2 := b2 _ _ (pot_ne hp hL) oL
      obtain ⟨z, hz, z1, z2⟩ : ∃ z : Int, atI [V.int 9, V.int (10 ^ Int.toNat 30)] e = some (.int z) ∧ 1 ≤ z ∧ z ≤ 10 ^ 30 := by
        rcases (show e = 0 ∨ e = 1 by omega) with rfl | rfl
        · exact ⟨9, rfl, by decide, by decide⟩
        · exact ⟨10 ^ 30, rfl, by decide, by decide⟩
      have z3 : z < 2 ^ 200 := Int.lt_of_le_of_lt z2 (by decide)
      try walk_at "go"
      intro x H3 x0 x1 b3 p3
      exact q x H3 ((same_but SH1).trans (b2.trans b3)) p3 (decide_eq_true x0) (by omega)
    | some m =>
      obtain ⟨m0, m1⟩ := hm m rfl
      have z3 : m - 0 + 1 < 2 ^ 200 := Int.lt_of_le_of_lt (b := 1001) (by omega) (by decide)
      try walk_at "go"
      intro x H3 x0 x1 b3 p3
      try walk_at "go"
      refine q _ H3 b3 p3 ?_ ?_
      · show (decide (0 ≤ 0 + x) && decide (0 + x ≤ m)) = true
        rw [decide_eq_true (by omega), decide_eq_true (by omega)] <;> rfl
      · show 0 + x ≤ 10 ^ 30
        omega
/-! SPLIT -/
def outD (w : Nat) (ds : List PyData) : Option Nat := match w, ds with
  | 0, [d, e] => if isR d 0 4 then (if isF e 0 then none else some 1) else some 0
  | 1, [d, e] => if isR d 0 4 then (if isF e 0 then none else some 1) else some 0
  | 2, [d, e, f] => if isR d 0 4 then (if isF f 0 then (if isR e 0 ((2 ^ (wv d).toNat : Nat) - 1 : Int) then none else some 2) else some 1) else some 0
  | 3, [d, e, f, g] => if isR d 0 4 then (if isF e 0 && (isF f 0 && isR g 0 200) then none else some 1) else some 0
  | _, [d] => if isR d 0 3 then none else some 0
  | _, _ => none
def en (c : Nat) : Str := match c with
  | 0 => "NoNet"
  | 1 => "NoNumber"
  | _ => "NoSide"
def spAsked (K : PySem.W.Frag) (mg : Str → Option Value) : Sp := fun vs H Q E => ∃ (w : Nat) (L : Addr) (tr : List (V × PyData)) (p : Addr), vs = [.int w, .ref L] ∧ w < 7 ∧ H L = some (.lst (tr.map fun t => t.1)) ∧ tr.length = (kn w).length ∧ (∀ t ∈ tr, Th K p H t.1 t.2 ∧ ib t.2 ≤ 10 ^ 85) ∧ (outD w (tr.map fun t => t.2) = none → ∀ v H', Same H H' → Q v H') ∧ (∀ n, outD w (tr.map fun t => t.2) = some n → ∀ H', Same H H' → E (.ref (cAt mg (en n))) none H')
theorem k__law_asked (D : Df K mg "_law_asked" s__law_asked ["_law_which", "_law_things"]) (D_place_of : Dx P w K mg base 4 "place_of" ["k", "address"] (spPlaceT K (cAt mg "NoNet") (cAt mg "NoNumber"))) (D_side_of : Dx P w K mg base 4 "side_of" ["k", "address"] (spPlaceT K (cAt mg "NoNet") (cAt mg "NoNumber"))) (D_address_at : Dx P w K mg base 4 "address_at" ["k", "side", "place"] (spAddrT K (cAt mg "NoNet") (cAt mg "NoNumber") (cAt mg "NoSide"))) (D_lying : Dx P w K mg base 4 "lying" ["k", "begin", "step", "many"] (spLyT K (cAt mg "NoNet") (cAt mg "NoNumber"))) (D_toggles : Dx P w K mg base 13 "toggles" ["k"] (spTogT K (cAt mg "NoNet"))) (D_counted : Dx P w K mg base 13 "counted" ["k"] (spTogT K (cAt mg "NoNet"))) (D_Counter____init__ : DxI P w K mg base (cAt mg "Counter") 13 ["self", "k"] (spCtIT K (cAt mg "Counter") (cAt mg "NoNet"))) : Dx P w K mg base 15 "_law_asked" ["_law_which", "_law_things"] (spAsked K mg) := by
  refine D.okX fun f fd F => okGX F sc__law_asked (fun vs H Q E h => ?_) (fun cdv A outer s H vs Q E hr h => ⟨_, (pss_cons (ps_if (pt_cmpR op_eq (pv 0) pe_int (nomark _))
      (pss_one (ps_ret (pe_cW D_place_of (hr.less (by decide)) (takes_of rfl rfl rfl rfl) rfl (pa_cons (pe_ix (kk (K := K) (F := rIxL) (P := IxR _) ix_list) (pv 1) pe_int (fun _ _ => rfl)) (pa_cons (pe_ix (kk (K := K) (F := rIxL) (P := IxR _) ix_list) (pv 1) pe_int (fun _ _ => rfl)) pa_nil)))))
      pss_nil)
    (pss_cons (ps_if (pt_cmpR op_eq (pv 0) pe_int (nomark _))
      (pss_one (ps_ret (pe_cW D_side_of (hr.less (by decide)) (takes_of rfl rfl rfl rfl) rfl (pa_cons (pe_ix (kk (K := K) (F := rIxL) (P := IxR _) ix_list) (pv 1) pe_int (fun _ _ => rfl)) (pa_cons (pe_ix (kk (K := K) (F := rIxL) (P := IxR _) ix_list) (pv 1) pe_int (fun _ _ => rfl)) pa_nil)))))
      pss_nil)
    (pss_cons (ps_if (pt_cmpR op_eq (pv 0) pe_int (nomark _))
      (pss_one (ps_ret (pe_cW D_address_at (hr.less (by decide)) (takes_of rfl rfl rfl rfl) rfl (pa_cons (pe_ix (kk (K := K) (F := rIxL) (P := IxR _) ix_list) (pv 1) pe_int (fun _ _ => rfl)) (pa_cons (pe_ix (kk (K := K) (F := rIxL) (P := IxR _) ix_list) (pv 1) pe_int (fun _ _ => rfl)) (pa_cons (pe_ix (kk (K := K) (F := rIxL) (P := IxR _) ix_list) (pv 1) pe_int (fun _ _ => rfl)) pa_nil))))))
      pss_nil)
    (pss_cons (ps_if (pt_cmpR op_eq (pv 0) pe_int (nomark _))
      (pss_one (ps_ret (pe_cW D_lying (hr.less (by decide)) (takes_of rfl rfl rfl rfl) rfl (pa_cons (pe_ix (kk (K := K) (F := rIxL) (P := IxR _) ix_list) (pv 1) pe_int (fun _ _ => rfl)) (pa_cons (pe_ix (kk (K := K) (F := rIxL) (P := IxR _) ix_list) (pv 1) pe_int (fun _ _ => rfl)) (pa_cons (pe_ix (kk (K := K) (F := rIxL) (P := IxR _) ix_list) (pv 1) pe_int (fun _ _ => rfl)) (pa_cons (pe_ix (kk (K := K) (F := rIxL) (P := IxR _) ix_list) (pv 1) pe_int (fun _ _ => rfl)) pa_nil)))))))
      pss_nil)
    (pss_cons (ps_if (pt_cmpR op_eq (pv 0) pe_int (nomark _))
      (pss_one (ps_ret (pe_cW D_toggles (hr.less (by decide)) (takes_of rfl rfl rfl rfl) rfl (pa_cons (pe_ix (kk (K := K) (F := rIxL) (P := IxR _) ix_list) (pv 1) pe_int (fun _ _ => rfl)) pa_nil))))
      pss_nil)
    (pss_cons (ps_if (pt_cmpR op_eq (pv 0) pe_int (nomark _))
      (pss_one (ps_ret (pe_cW D_counted (hr.less (by decide)) (takes_of rfl rfl rfl rfl) rfl (pa_cons (pe_ix (kk (K := K) (F := rIxL) (P := IxR _) ix_list) (pv 1) pe_int (fun _ _ => rfl)) pa_nil))))
      pss_nil)
    (pss_one (ps_ret (pe_mkX D_Counter____init__ (hr.less (by decide)) (takes_of rfl rfl rfl rfl) rfl B.Counter_.mg_ (pa_cons (pe_ix (kk (K := K) (F := rIxL) (P := IxR _) ix_list) (pv 1) pe_int (fun _ _ => rfl)) pa_nil)))))))))), ?_⟩)
  · obtain ⟨w, L, tr, p, rfl, _⟩ := h; rfl
  · obtain ⟨w, L, tr, p, rfl, hw, hL, hl, htr, q1, q2⟩ := h
    rcases (show w = 0 ∨ w = 1 ∨ w = 2 ∨ w = 3 ∨ w = 4 ∨ w = 5 ∨ w = 6 by omega) with rfl | rfl | rfl | rfl | rfl | rfl | rfl
    · obtain ⟨t0, t1, rfl⟩ : ∃ t0 t1, tr = [t0, t1] := match tr, hl with | [t0, t1], _ => ⟨_, _, rfl⟩
      have h0 := (htr t0 (by simp)).1
      have h1 := (htr t1 (by simp)).1
      have oL : H L = some (.lst [t0.1, t1.1]) := hL
      try walk_at "go"
      exact ⟨fun c1 c2 x => q1 (by simp [outD, c1, c2]) x H (Same.refl _), fun c1 => q2 0 (by simp [outD, c1]) H (Same.refl _), fun c1 c2 => q2 1 (by simp [outD, c1, c2]) H (Same.refl _)⟩
    · obtain ⟨t0, t1, rfl⟩ : ∃ t0 t1, tr = [t0, t1] := match tr, hl with | [t0, t1], _ => ⟨_, _, rfl⟩
      have h0 := (htr t0 (by simp)).1
      have h1 := (htr t1 (by simp)).1
      have oL : H L = some (.lst [t0.1, t1.1]) := hL
      try walk_at "go"
      exact ⟨fun c1 c2 x => q1 (by simp [outD, c1, c2]) x H (Same.refl _), fun c1 => q2 0 (by simp [outD, c1]) H (Same.refl _), fun c1 c2 => q2 1 (by simp [outD, c1, c2]) H (Same.refl _)⟩
    · obtain ⟨t0, t1, t2, rfl⟩ : ∃ t0 t1 t2, tr = [t0, t1, t2] := match tr, hl with | [t0, t1, t2], _ => ⟨_, _, _, rfl⟩
      have h0 := (htr t0 (by simp)).1
      have h1 := (htr t1 (by simp)).1
      have h2 := (htr t2 (by simp)).1
      have i2 : ib t2.2 ≤ 10 ^ 90 := Nat.le_trans (htr t2 (by simp)).2 (by decide)
      have oL : H L = some (.lst [t0.1, t1.1, t2.1]) := hL
      try walk_at "go"
      refine ⟨fun k ek hk c2 c3 x => q1 ?_ x H (Same.refl _), fun c1 => q2 0 (by simp [outD, c1]) H (Same.refl _), fun c1 c2 => q2 1 (by simp [outD, c1, c2]) H (Same.refl _), fun k ek hk c2 c3 => q2 2 ?_ H (Same.refl _)⟩
      · have c1 : isR t0.2 0 4 = true := ek ▸ isR_mk (by omega) (by omega)
        have ew : (wv t0.2).toNat = k := by rw [ek]; exact Int.toNat_natCast k
        show (if isR t0.2 0 4 = true then (if isF t2.2 0 = true then (if isR t1.2 0 ((2 ^ (wv t0.2).toNat : Nat) - 1 : Int) = true then none else some 2) else some 1) else some 0) = none
        rw [if_pos c1, if_pos c3, ew, if_pos c2]
      · have c1 : isR t0.2 0 4 = true := ek ▸ isR_mk (by omega) (by omega)
        have ew : (wv t0.2).toNat = k := by rw [ek]; exact Int.toNat_natCast k
        show (if isR t0.2 0 4 = true then (if isF t2.2 0 = true then (if isR t1.2 0 ((2 ^ (wv t0.2).toNat : Nat) - 1 : Int) = true then none else some 2) else some 1) else some 0) = some 2
        rw [if_pos c1, if_pos c2, ew, if_neg (by rw [c3]; decide)]
    · obtain ⟨t0, t1, t2, t3, rfl⟩ : ∃ t0 t1 t2 t3, tr = [t0, t1, t2, t3] := match tr, hl with | [t0, t1, t2, t3], _ => ⟨_, _, _, _, rfl⟩
      have h0 := (htr t0 (by simp)).1
      have h1 := (htr t1 (by simp)).1
      have h2 := (htr t2 (by simp)).1
      have h3 := (htr t3 (by simp)).1
      have i1 := (htr t1 (by simp)).2
      have i2 := (htr t2 (by simp)).2
      have oL : H L = some (.lst [t0.1, t1.1, t2.1, t3.1]) := hL
      try walk_at "go"
      refine ⟨fun c1 c2 x H' S => q1 ?_ x H' S, fun c1 => q2 0 (by simp [outD, c1]) H (Same.refl _), fun c1 c2 => q2 1 ?_ H (Same.refl _)⟩
      · show (if isR t0.2 0 4 = true then (if (isF t1.2 0 && (isF t2.2 0 && isR t3.2 0 200)) = true then none else some 1) else some 0) = none
        rw [if_pos c1, if_pos c2]
      · show (if isR t0.2 0 4 = true then (if (isF t1.2 0 && (isF t2.2 0 && isR t3.2 0 200)) = true then none else some 1) else some 0) = some 1
        rw [if_pos c1, if_neg (by rw [c2]; decide)]
    · obtain ⟨t0, rfl⟩ : ∃ t0, tr = [t0] := match tr, hl with | [t0], _ => ⟨_, rfl⟩
      have h0 := (htr t0 (by simp)).1
      have oL : H L = some (.lst [t0.1]) := hL
      have o1 : isR t0.2 0 3 = true → outD 4 [t0.2] = none := fun c => by show (if isR t0.2 0 3 = true then none else some 0) = none; rw [if_pos c]
      have o2 : isR t0.2 0 3 = false → outD 4 [t0.2] = some 0 := fun c => by show (if isR t0.2 0 3 = true then none else some 0) = some 0; rw [if_neg (by rw [c]; decide)]
      try walk_at "go"
      exact ⟨fun c x H' S => q1 (o1 c) x H' S, fun c => q2 0 (o2 c) H (Same.refl _)⟩
    · obtain ⟨t0, rfl⟩ : ∃ t0, tr = [t0] := match tr, hl with | [t0], _ => ⟨_, rfl⟩
      have h0 := (htr t0 (by simp)).1
      have oL : H L = some (.lst [t0.1]) := hL
      have o1 : isR t0.2 0 3 = true → outD 5 [t0.2] = none := fun c => by show (if isR t0.2 0 3 = true then none else some 0) = none; rw [if_pos c]
      have o2 : isR t0.2 0 3 = false → outD 5 [t0.2] = some 0 := fun c => by show (if isR t0.2 0 3 = true then none else some 0) = some 0; rw [if_neg (by rw [c]; decide)]
      try walk_at "go"
      exact ⟨fun c x H' S => q1 (o1 c) x H' S, fun c => q2 0 (o2 c) H (Same.refl _)⟩
    · obtain ⟨t0, rfl⟩ : ∃ t0, tr = [t0] := match tr, hl with | [t0], _ => ⟨_, rfl⟩
      have h0 := (htr t0 (by simp)).1
      have oL : H L = some (.lst [t0.1]) := hL
      have o1 : isR t0.2 0 3 = true → outD 6 [t0.2] = none := fun c => by show (if isR t0.2 0 3 = true then none else some 0) = none; rw [if_pos c]
      have o2 : isR t0.2 0 3 = false → outD 6 [t0.2] = some 0 := fun c => by show (if isR t0.2 0 3 = true then none else some 0) = some 0; rw [if_neg (by rw [c]; decide)]
      try walk_at "go"
      intro x dx n1 n2 ne
      have Sd := same_new n2 (.own x)
      have Sx := same_new (H := L2.upd H dx (.own x)) (p := x) (by rw [upd_ne (Ne.symm ne)]; exact n1) (.ins (cAt mg "Counter") dx [])
      have S2 := Sd.trans Sx
      exact ⟨x, dx, t0.1, t0.2, p, rfl, upd_same, h0.same S2, fun c H' be => ⟨rfl, q1 (o1 c) _ H' (but_same n1 S2 be)⟩, fun c => q2 0 (o2 c) _ S2⟩
def bl3 (o : Option Nat) : List Bool := [decide (o = some 0), decide (o = some 1), decide (o = some 2)]
omit B in
theorem outD_lt {w : Nat} {ds : List PyData} {n : Nat} (h : outD w ds = some n) : n = 0 ∨ n = 1 ∨ n = 2 := by
  unfold outD at h
  split at h <;> (try split at h) <;> (try split at h) <;> (try split at h) <;> simp_all <;> omega
def spMet (K : PySem.W.Frag) : Sp := fun vs H Q _ => ∃ (w : Nat) (L : Addr) (tr : List (V × PyData)) (p : Addr), vs = [.int w, .ref L] ∧ w < 7 ∧ H L = some (.lst (tr.map fun t => t.1)) ∧ tr.length = (kn w).length ∧ (∀ t ∈ tr, Th K p H t.1 t.2 ∧ ib t.2 ≤ 10 ^ 85) ∧ ∀ M H', Same H H' → H' M = some (.lst ((bl3 (outD w (tr.map fun t => t.2))).map V.bl)) → Q (.ref M) H'
theorem k__law_met (D : Df K mg "_law_met" s__law_met ["_law_which", "_law_things"]) (D__law_asked : Dx P w K mg base 15 "_law_asked" ["_law_which", "_law_things"] (spAsked K mg)) : Dn P w K mg base 16 "_law_met" ["_law_which", "_law_things"] (spMet K) := by
  refine D.ok fun f fd F => okG0 F sc__law_met (fun vs H Q E h => ?_) (fun cdv A outer s H vs Q E hr h => ⟨_, (pss_cons (ps_set (i := 2) sc__law_met.nd rfl (Or.inl rfl) (pe_op op_rep (pe_lst (pa_cons pe_bl pa_nil)) pe_int))
    (pss_cons (ps_try_as (i := 3) rfl rfl sc__law_met.nd rfl rfl ⟨rfl, by decide, .inl B.AskError_.mg_⟩ takes0 (fun W pn xe tk po => (pss_one (ps_expr (pe_cW D__law_asked (hr.less (by decide)) tk rfl (pa_cons (pv 0) (pa_cons (pv 1) pa_nil))))))
      (fun a oe cls d pn hz hf => (pss_one (ps_set (i := 2) sc__law_met.nd rfl (Or.inl rfl) (pe_lst (pa_cons (pe_callB (call_isX hz hf) (by rfl) B.isinstance_ (by decide +kernel) (pa_cons (pv 3) (pa_cons (pe_glob (v := .ref (cAt mg "NoNet")) (u := .ref (cAt mg "NoNet")) (by rfl) B.NoNet_.mg_ rfl) pa_nil))) (pa_cons (pe_callB (call_isX hz hf) (by rfl) B.isinstance_ (by decide +kernel) (pa_cons (pv 3) (pa_cons (pe_glob (v := .ref (cAt mg "NoNumber")) (u := .ref (cAt mg "NoNumber")) (by rfl) B.NoNumber_.mg_ rfl) pa_nil))) (pa_cons (pe_callB (call_isX hz hf) (by rfl) B.isinstance_ (by decide +kernel) (pa_cons (pv 3) (pa_cons (pe_glob (v := .ref (cAt mg "NoSide")) (u := .ref (cAt mg "NoSide")) (by rfl) B.NoSide_.mg_ rfl) pa_nil))) pa_nil))))))))
    (pss_one (ps_ret (pv 2))))), ?_⟩)
  · obtain ⟨w, L, tr, p, rfl, _⟩ := h; rfl
  · obtain ⟨w, L, tr, p, rfl, hw, hL, hl, htr, q⟩ := h
    have e1 : PySem.W.exmOne K (.ref (cAt mg "NoNet")) (.ref (cAt mg "AskError")) = some true := exm_of B.AskError_ B.NoNet_AskError_
    have e2 : PySem.W.exmOne K (.ref (cAt mg "NoNumber")) (.ref (cAt mg "AskError")) = some true := exm_of B.AskError_ B.NoNumber_AskError_
    have e3 : PySem.W.exmOne K (.ref (cAt mg "NoSide")) (.ref (cAt mg "AskError")) = some true := exm_of B.AskError_ B.NoSide_AskError_
    try walk_at "go"
    intro L1 hL1
    generalize eH1 : upd _ L1 _ = H1
    have SH1 := newS eH1 hL1
    have oL1 := newO eH1
    try walk_at "go"
    intro L2 hL2
    generalize eH2 : upd _ L2 _ = H2
    have SH2 := newS eH2 hL2
    have oL2 := newO eH2
    have S2 := SH1.trans SH2
    have htr2 : ∀ t ∈ tr, Th K p H2 t.1 t.2 ∧ ib t.2 ≤ 10 ^ 85 := fun t ht => ⟨(htr t ht).1.same S2, (htr t ht).2⟩
    try walk_at "go"
    refine ⟨fun e v H3 S3 => ?_, fun n e H3 S3 => ?_⟩
    · try walk_at "go"
      exact q L2 H3 (S2.trans S3) (by rw [S3 _ _ oL2, e] <;> rfl)
    have S23 := S2.trans S3
    rcases outD_lt e with rfl | rfl | rfl
    · refine ⟨true, e1, fun _ x hx => ?_, fun z => by cases z⟩
      have k_NoNet := kitO B.NoNet_ B.NoNet_NoNet_ B.NoNet_NoNet_
      have k_NoNumber := kitO B.NoNumber_ B.NoNet_NoNet_ B.NoNet_NoNumber_
      have k_NoSide := kitO B.NoSide_ B.NoNet_NoNet_ B.NoNet_NoSide_
      have kv := kitVE B.NoNet_i
      have kc := B.NoNet_i.c
      try walk_at "go"
      intro M hM
      generalize eH4 : upd _ M _ = H4
      have SH4 := newS eH4 hM
      have oM := newO eH4
      try walk_at "go"
      exact q M H4 (S23.trans SH4) (by rw [oM, e] <;> rfl)
    · refine ⟨true, e2, fun _ x hx => ?_, fun z => by cases z⟩
      have k_NoNet := kitO B.NoNet_ B.NoNumber_NoNumber_ B.NoNumber_NoNet_
      have k_NoNumber := kitO B.NoNumber_ B.NoNumber_NoNumber_ B.NoNumber_NoNumber_
      have k_NoSide := kitO B.NoSide_ B.NoNumber_NoNumber_ B.NoNumber_NoSide_
      have kv := kitVE B.NoNumber_i
      have kc := B.NoNumber_i.c
      try walk_at "go"
      intro M hM
      generalize eH4 : upd _ M _ = H4
      have SH4 := newS eH4 hM
      have oM := newO eH4
      try walk_at "go"
      exact q M H4 (S23.trans SH4) (by rw [oM, e] <;> rfl)
    · refine ⟨true, e3, fun _ x hx => ?_, fun z => by cases z⟩
      have k_NoNet := kitO B.NoNet_ B.NoSide_NoSide_ B.NoSide_NoNet_
      have k_NoNumber := kitO B.NoNumber_ B.NoSide_NoSide_ B.NoSide_NoNumber_
      have k_NoSide := kitO B.NoSide_ B.NoSide_NoSide_ B.NoSide_NoSide_
      have kv := kitVE B.NoSide_i
      have kc := B.NoSide_i.c
      try walk_at "go"
      intro M hM
      generalize eH4 : upd _ M _ = H4
      have SH4 := newS eH4 hM
      have oM := newO eH4
      try walk_at "go"
      exact q M H4 (S23.trans SH4) (by rw [oM, e] <;> rfl)
/-! SPLIT -/
omit B in
theorem RoomG.u1 {k : Nat} {A : Around} (r : RoomG k A) : A.units + 1 < cLine := by have := r.units; omega
omit B in
theorem but_upd {p D : Addr} {H H1 : Hp} {o : HO} (n : H D = none) (a : But p H H1) : But p H (upd H1 D o) := fun b u hb e => by rw [upd_ne (ne_of_none e n)]; exact a b u hb e
omit B in
theorem at_dv (l : List Bool) (h : l.length = 3) : ∃ a b c, l = [a, b, c] := match l, h with | [a, b, c], _ => ⟨a, b, c, rfl⟩
def pl (c : Nat) : Nat := match c with
  | 0 => 0
  | 2 => 2
  | 4 => 0
  | _ => 1
def dv (cs : List Nat) (os : List Bool) (i : Nat) : List Bool := (List.range i).foldl (fun l j => if os.getD j false = true then l.set (pl (cs.getD j 0)) true else l) [false, false, false]
omit B in
theorem kn_lt {w c : Nat} (h : c ∈ kn w) : c < 5 := by
  unfold kn at h
  split at h <;> simp at h <;> omega
omit B in
theorem sm_in {c : Nat} (h : c < 5) : inV (V.str (nm c)) [V.str "net", V.str "small"] = decide (c = 0 ∨ c = 4) := by
  rcases (show c = 0 ∨ c = 1 ∨ c = 2 ∨ c = 3 ∨ c = 4 by omega) with rfl | rfl | rfl | rfl | rfl <;> decide +kernel
omit B in
theorem hiB_ok {c k : Nat} (hk : k ≤ 4) : ∀ m, hiB c k = some m → 0 ≤ m ∧ m ≤ 1000 := by
  intro m h
  have h1 : 2 ^ k ≤ 2 ^ 4 := Nat.pow_le_pow_right (by decide) hk
  have h2 := Nat.two_pow_pos k
  unfold hiB at h
  split at h <;> (try cases h) <;> omega
omit B in
theorem dv_succ {cs : List Nat} {os : List Bool} {i : Nat} : dv cs os (i + 1) = if os.getD i false = true then (dv cs os i).set (pl (cs.getD i 0)) true else dv cs os i := by
  unfold dv; rw [List.range_succ, List.foldl_append] <;> rfl
omit B in
theorem dv_len {cs : List Nat} {os : List Bool} : ∀ i, (dv cs os i).length = 3
  | 0 => rfl
  | i + 1 => by rw [dv_succ]; split <;> simp [dv_len i]
def firstT (l : List Bool) : Option Nat := if l.getD 0 false = true then some 0 else if l.getD 1 false = true then some 1 else if l.getD 2 false = true then some 2 else none
def spDue (K : PySem.W.Frag) : Sp := fun vs H Q _ => ∃ (A O : Addr) (w : Nat) (os : List Bool), vs = [.ref A, .ref O] ∧ w < 7 ∧ H A = some (.lst ((kn w).map fun c => V.str (nm c))) ∧ H O = some (.lst (os.map V.bl)) ∧ os.length = (kn w).length ∧ ∀ M H', Same H H' → H' M = some (.lst ((bl3 (firstT (dv (kn w) os (kn w).length))).map V.bl)) → Q (.ref M) H'
theorem k__law_due (D : Df K mg "_law_due" s__law_due ["_law_kinds_here", "_law_odd_here"]) : Dn P w K mg base 2 "_law_due" ["_law_kinds_here", "_law_odd_here"] (spDue K) := by
  refine D.ok fun f fd F => okG0 F sc__law_due (fun vs H Q E h => ?_) (fun cdv A outer s H vs Q E hr h => ⟨_, (pss_cons (ps_set (i := 2) sc__law_due.nd rfl (Or.inr rfl) (pe_op op_rep (pe_lst (pa_cons pe_bl pa_nil)) pe_int))
    (pss_cons (ps_for PassesOwn.never rfl (kk (K := K) (F := fun K => RZ.iZipA K _) (P := PI _ _ _) (RZ.pi_zipA (by rfl) B.zip_ (pa_cons (pv 0) (pa_cons (pv 1) pa_nil)))) (kk (K := K) (F := fun K => gTup K 2 _) (P := PG _ _) (pg_tup rfl (pgs_cons (pg_name (i := 3) sc__law_due.nd rfl (Or.inl rfl)) (pgs_cons (pg_name (i := 4) sc__law_due.nd rfl (Or.inl rfl)) pgs_nil))))
      (pss_one (ps_if (pt_truth (pv 4) (by intro _; rfl))
       (pss_one (ps_asg pe_bl (pg_sub (pv 2) (pe_dget2 hr.u1 (pe_disp (pps_cons pe_str pe_int (pps_cons pe_str pe_int (pps_cons pe_str pe_int pps_nil))) (by rfl) (by rfl) (fun z => by cases z) (by decide)) (pv 3) pe_int ⟨rfl, rfl, rfl, rfl⟩) set_list)))
       pss_nil)))
    (pss_cons (ps_if (pt_cmpR (kk (K := K) (F := fun K => rIn K false) (P := OpR _ _) op_in_seq) pe_bl (pv 2) (by rfl))
      (pss_one (ps_ret (pe_lc (own := [("_law_place", 5)]) (g := gName 5) (tt := tYes) rfl sc__law_due.nd (pi_range1 (by rfl) B.range_ (pa_cons pe_int pa_nil)) (blkOk_by (own := [("_law_place", 5)]) (N := ["_law_kinds_here", "_law_odd_here", "_law_due_here", "_law_kind", "_law_is_odd", "_law_place"]) (sc := defScope s__law_due) (by decide +kernel)) (fun _ _ _ _ _ => (pg_name (i := 5) sc__law_due.nd rfl (Or.inl rfl))) (fun _ _ _ _ _ => pts_nil) (fun _ _ _ _ _ => (pe_cmpR op_eq (pv 5) (kk (K := K) (F := fun K => tBM K "list" _ _ _) (P := PE _ _) (pe_bm PySem.F.plainAttrs_list PySem.F.slot_list_index PySem.F.type_list_index mt_index (pv 2) (pa_cons pe_bl pa_nil))) (nomark _))))))
      pss_nil)
    (pss_one (ps_ret (pv 2)))))), ?_⟩)
  · obtain ⟨A, O, w, os, rfl, _⟩ := h; rfl
  · obtain ⟨A, O, w, os, rfl, hw, hA, hO, ho, q⟩ := h
    have kl : (kn w).length ≤ 4 := by unfold kn; split <;> decide
    try walk_at "go"
    intro L1 hL1
    generalize eH1 : upd _ L1 _ = H1
    have SH1 := newS eH1 hL1
    have oL1 := newO eH1
    try walk_at "go"
    intro L2 hL2
    generalize eH2 : upd _ L2 _ = H2
    have SH2 := newS eH2 hL2
    have oL2 := newO eH2
    replace oL2 : H2 L2 = some (.lst ((dv (kn w) os 0).map V.bl)) := oL2
    have S2 := SH1.trans SH2
    have hA2 := S2 _ _ hA
    have hO2 := S2 _ _ hO
    try walk_at "go"
    refine RZ.for_zipL (K := K) (a := A) (b := O) (xs := (kn w).map fun c => V.str (nm c)) (ys := os.map V.bl) (by rw [List.length_map, List.length_map, ho]) (fun i σ H' => Kept (∃ s3 s4 s5, σ = [some (.ref A), some (.ref O), some (.ref L2), s3, s4, s5] ∧ Same H H' ∧ H' L2 = some (.lst ((dv (kn w) os i).map V.bl)))) ⟨⟨_, _, _, rfl, S2, oL2⟩⟩ (fun i σ H' h => by obtain ⟨_, _, _, _, S, _⟩ := h.ex; exact ⟨SqL.of (S _ _ hA), SqL.of (S _ _ hO)⟩) ?_ ?_
    · rintro i x y T σ H3 hx hy ⟨s3, s4, s5', rfl, S3, o3⟩ hT
      rw [List.getElem?_map] at hx hy
      obtain ⟨c, hc, rfl⟩ := Option.map_eq_some_iff.mp hx
      obtain ⟨b, hb, rfl⟩ := Option.map_eq_some_iff.mp hy
      have ec : (kn w).getD i 0 = c := by rw [List.getD_eq_getElem?_getD, hc] <;> rfl
      have eb : os.getD i false = b := by rw [List.getD_eq_getElem?_getD, hb] <;> rfl
      have ed := dv_succ (cs := kn w) (os := os) (i := i)
      rw [ec, eb] at ed
      generalize eH4 : upd _ T (HO.tup [.str (nm c), .bl b]) = H4
      have SH4 := newS eH4 hT
      have oT := newO eH4
      have o4 := SH4 _ _ o3
      cases b with
      | false =>
        rw [if_neg (by decide)] at ed
        try walk_at "go"
        refine ifF rfl ?_
        exact ⟨⟨_, _, _, rfl, S3.trans SH4, by rw [ed]; exact o4⟩⟩
      | true =>
        rw [if_pos rfl] at ed
        try walk_at "go"
        have c5 := kn_lt (List.mem_of_getElem? hc)
        have n2 : ∀ U, H4 U = none → L2 ≠ U := fun U hU => ne_of_none o4 hU
        have i3 : ∀ p : Nat, p < 3 → ixN ((dv (kn w) os i).map V.bl).length (p : Int) = some p := fun p hp => ixn (by rw [List.length_map, dv_len]; exact hp)
        have en : ∀ (U : Addr) (x y : HO), H4 U = none → Kept (∃ s3 s4 s5, ([some (V.ref A), some (V.ref O), some (V.ref L2), some (V.str (nm c)), some (V.bl true), s5'] : List (Option V)) = [some (V.ref A), some (V.ref O), some (V.ref L2), s3, s4, s5] ∧ Same H (upd (upd (upd H4 U x) U y) L2 (.lst (((dv (kn w) os i).map V.bl).set (pl c) (.bl true)))) ∧ (upd (upd (upd H4 U x) U y) L2 (.lst (((dv (kn w) os i).map V.bl).set (pl c) (.bl true)))) L2 = some (.lst ((dv (kn w) os (i + 1)).map V.bl))) := fun U x y hU => by
          refine ⟨⟨_, _, _, rfl, ?_, by rw [upd_same, ed, List.map_set]⟩⟩
          have hf : H L2 = none := SH1.free hL2
          have hu : H U = none := (S3.trans SH4).free hU
          exact but_same hf (but_same hu (S3.trans SH4) (But.upd.trans But.upd)) But.upd
        rcases (show c = 0 ∨ c = 1 ∨ c = 2 ∨ c = 3 ∨ c = 4 by omega) with rfl | rfl | rfl | rfl | rfl
        · try walk_at "go"
          refine fun U hU => ⟨upd_same, [(Sum.inr "net", .int 0), (Sum.inr "small", .int 0), (Sum.inr "side", .int 2)], rfl, by decide, ?_⟩
          refine ⟨U, rfl, .inl ⟨_, .inl upd_same⟩, _, rfl, _, DGet.k (k := Sum.inr (nm 0)) upd_same, ?_⟩
          refine ⟨L2, _, _, pl 0, rfl, rfl, by rw [upd_ne (n2 U hU), upd_ne (n2 U hU)]; exact o4, i3 (pl 0) (by decide), ?_⟩
          exact en U _ _ hU
        · try walk_at "go"
          refine fun U hU => ⟨upd_same, [(Sum.inr "net", .int 0), (Sum.inr "small", .int 0), (Sum.inr "side", .int 2)], rfl, by decide, ?_⟩
          refine ⟨U, rfl, .inl ⟨_, .inl upd_same⟩, _, rfl, _, DGet.k (k := Sum.inr (nm 1)) upd_same, ?_⟩
          refine ⟨L2, _, _, pl 1, rfl, rfl, by rw [upd_ne (n2 U hU), upd_ne (n2 U hU)]; exact o4, i3 (pl 1) (by decide), ?_⟩
          exact en U _ _ hU
        · try walk_at "go"
          refine fun U hU => ⟨upd_same, [(Sum.inr "net", .int 0), (Sum.inr "small", .int 0), (Sum.inr "side", .int 2)], rfl, by decide, ?_⟩
          refine ⟨U, rfl, .inl ⟨_, .inl upd_same⟩, _, rfl, _, DGet.k (k := Sum.inr (nm 2)) upd_same, ?_⟩
          refine ⟨L2, _, _, pl 2, rfl, rfl, by rw [upd_ne (n2 U hU), upd_ne (n2 U hU)]; exact o4, i3 (pl 2) (by decide), ?_⟩
          exact en U _ _ hU
        · try walk_at "go"
          refine fun U hU => ⟨upd_same, [(Sum.inr "net", .int 0), (Sum.inr "small", .int 0), (Sum.inr "side", .int 2)], rfl, by decide, ?_⟩
          refine ⟨U, rfl, .inl ⟨_, .inl upd_same⟩, _, rfl, _, DGet.k (k := Sum.inr (nm 3)) upd_same, ?_⟩
          refine ⟨L2, _, _, pl 3, rfl, rfl, by rw [upd_ne (n2 U hU), upd_ne (n2 U hU)]; exact o4, i3 (pl 3) (by decide), ?_⟩
          exact en U _ _ hU
        · try walk_at "go"
          refine fun U hU => ⟨upd_same, [(Sum.inr "net", .int 0), (Sum.inr "small", .int 0), (Sum.inr "side", .int 2)], rfl, by decide, ?_⟩
          refine ⟨U, rfl, .inl ⟨_, .inl upd_same⟩, _, rfl, _, DGet.k (k := Sum.inr (nm 4)) upd_same, ?_⟩
          refine ⟨L2, _, _, pl 4, rfl, rfl, by rw [upd_ne (n2 U hU), upd_ne (n2 U hU)]; exact o4, i3 (pl 4) (by decide), ?_⟩
          exact en U _ _ hU
    · rintro σ H3 ⟨s3, s4, s5, rfl, S3, o3⟩
      rw [List.length_map] at o3
      obtain ⟨a, b, c, e⟩ := at_dv _ (dv_len (cs := kn w) (os := os) (kn w).length)
      rw [e] at o3 q
      cases a with
      | true =>
        try walk_at "go"
        intro D hD
        refine lc_range (lo := 0) (n := 3) (fun i H' => Kept (Same H3 H' ∧ H' D = some (.lst ((List.range i).map fun j => V.bl (decide (j = 0)))))) ⟨same_new hD _, upd_same⟩ ?_ ?_
        · rintro i H4 hi ⟨S4, oD⟩
          have o4 := S4 _ _ o3
          try walk_at "go"
          refine ⟨(show (List.map V.bl [true, b, c])[0]? = some (V.bl true) from rfl), rfl, fun m z' hm hz => ?_, rfl, _, oD, ?_, ⟨but_same hD S4 But.upd, ?_⟩⟩
          · revert hz
            match m, hm with
            | m, hm => omega
          · rw [List.length_map, List.length_range]; exact small1000 (by omega)
          · rw [upd_same, List.range_succ, List.map_append, List.map_cons, List.map_nil]
            show some (HO.lst (_ ++ [V.bl (decide (V.int (0 + (i : Int)) = V.int ((0 : Nat) : Int)))])) = _
            congr 4
            exact congrArg V.bl (decide_eq_decide.mpr ⟨fun z => by have := V.int.inj z; omega, fun z => by rw [z] <;> rfl⟩)
        · rintro H4 ⟨S4, oD⟩
          try walk_at "go"
          exact q D H4 (S3.trans S4) (by rw [oD] <;> rfl)
      | false =>
        cases b with
        | true =>
          try walk_at "go"
          intro D hD
          refine lc_range (lo := 0) (n := 3) (fun i H' => Kept (Same H3 H' ∧ H' D = some (.lst ((List.range i).map fun j => V.bl (decide (j = 1)))))) ⟨same_new hD _, upd_same⟩ ?_ ?_
          · rintro i H4 hi ⟨S4, oD⟩
            have o4 := S4 _ _ o3
            try walk_at "go"
            refine ⟨(show (List.map V.bl [false, true, c])[1]? = some (V.bl true) from rfl), rfl, fun m z' hm hz => ?_, rfl, _, oD, ?_, ⟨but_same hD S4 But.upd, ?_⟩⟩
            · revert hz
              match m, hm with
              | 0, _ => exact fun hz => by cases hz; rfl
              | m + 1, hm => omega
            · rw [List.length_map, List.length_range]; exact small1000 (by omega)
            · rw [upd_same, List.range_succ, List.map_append, List.map_cons, List.map_nil]
              show some (HO.lst (_ ++ [V.bl (decide (V.int (0 + (i : Int)) = V.int ((1 : Nat) : Int)))])) = _
              congr 4
              exact congrArg V.bl (decide_eq_decide.mpr ⟨fun z => by have := V.int.inj z; omega, fun z => by rw [z] <;> rfl⟩)
          · rintro H4 ⟨S4, oD⟩
            try walk_at "go"
            exact q D H4 (S3.trans S4) (by rw [oD] <;> rfl)
        | false =>
          cases c with
          | true =>
            try walk_at "go"
            intro D hD
            refine lc_range (lo := 0) (n := 3) (fun i H' => Kept (Same H3 H' ∧ H' D = some (.lst ((List.range i).map fun j => V.bl (decide (j = 2)))))) ⟨same_new hD _, upd_same⟩ ?_ ?_
            · rintro i H4 hi ⟨S4, oD⟩
              have o4 := S4 _ _ o3
              try walk_at "go"
              refine ⟨(show (List.map V.bl [false, false, true])[2]? = some (V.bl true) from rfl), rfl, fun m z' hm hz => ?_, rfl, _, oD, ?_, ⟨but_same hD S4 But.upd, ?_⟩⟩
              · revert hz
                match m, hm with
                | 0, _ => exact fun hz => by cases hz; rfl
                | 1, _ => exact fun hz => by cases hz; rfl
                | m + 2, hm => omega
              · rw [List.length_map, List.length_range]; exact small1000 (by omega)
              · rw [upd_same, List.range_succ, List.map_append, List.map_cons, List.map_nil]
                show some (HO.lst (_ ++ [V.bl (decide (V.int (0 + (i : Int)) = V.int ((2 : Nat) : Int)))])) = _
                congr 4
                exact congrArg V.bl (decide_eq_decide.mpr ⟨fun z => by have := V.int.inj z; omega, fun z => by rw [z] <;> rfl⟩)
            · rintro H4 ⟨S4, oD⟩
              try walk_at "go"
              exact q D H4 (S3.trans S4) (by rw [oD] <;> rfl)
          | false =>
            try walk_at "go"
            exact q L2 H3 S3 o3
/-! SPLIT -/
omit B in
/-- the class that is due is the class that comes -/
theorem due_out {w k : Nat} (hw : w < 7) : ∀ {ds : List PyData} {os : List Bool}, ds.length = (kn w).length → os.length = (kn w).length → (∀ i c d, (kn w)[i]? = some c → ds[i]? = some d → isB d 0 (hiB c k) = !os.getD i false) →
    (∀ i c d, (kn w)[i]? = some c → ds[i]? = some d → c = 0 → os.getD i false = false → d = .int k) → outD w ds = firstT (dv (kn w) os (kn w).length) := by
  intro ds os h1 h2 h3 h4
  rcases (show w = 0 ∨ w = 1 ∨ w = 2 ∨ w = 3 ∨ w = 4 ∨ w = 5 ∨ w = 6 by omega) with rfl | rfl | rfl | rfl | rfl | rfl | rfl
  · match ds, os, h1, h2 with
    | [d, e], [a, b], _, _ =>
      have g1 : isR d 0 4 = !a := h3 0 0 d rfl rfl
      have g2 : isF e 0 = !b := h3 1 1 e rfl rfl
      cases a <;> cases b <;> simp [outD, g1, g2] <;> rfl
  · match ds, os, h1, h2 with
    | [d, e], [a, b], _, _ =>
      have g1 : isR d 0 4 = !a := h3 0 0 d rfl rfl
      have g2 : isF e 0 = !b := h3 1 1 e rfl rfl
      cases a <;> cases b <;> simp [outD, g1, g2] <;> rfl
  · match ds, os, h1, h2 with
    | [d, e, f], [a, b, c], _, _ =>
      have g1 : isR d 0 4 = !a := h3 0 0 d rfl rfl
      have g2 : isR e 0 ((2 ^ k : Nat) - 1 : Int) = !b := h3 1 2 e rfl rfl
      have g3 : isF f 0 = !c := h3 2 1 f rfl rfl
      have g4 : a = false → d = .int k := fun z => h4 0 0 d rfl rfl rfl z
      have e0 : outD 2 [d, e, f] = if isR d 0 4 = true then (if isF f 0 = true then (if isR e 0 ((2 ^ (wv d).toNat : Nat) - 1 : Int) = true then none else some 2) else some 1) else some 0 := rfl
      rw [e0, g1, g3]
      cases a with
      | true => cases b <;> cases c <;> rfl
      | false =>
        have ew : (wv d).toNat = k := by rw [g4 rfl]; exact Int.toNat_natCast k
        rw [ew, g2]
        cases b <;> cases c <;> rfl
  · match ds, os, h1, h2 with
    | [d, e, f, g], [a, b, c, o], _, _ =>
      have g1 : isR d 0 4 = !a := h3 0 0 d rfl rfl
      have g2 : isF e 0 = !b := h3 1 1 e rfl rfl
      have g3 : isF f 0 = !c := h3 2 1 f rfl rfl
      have g4 : isR g 0 200 = !o := h3 3 3 g rfl rfl
      have e0 : outD 3 [d, e, f, g] = if isR d 0 4 = true then (if (isF e 0 && (isF f 0 && isR g 0 200)) = true then none else some 1) else some 0 := rfl
      rw [e0, g1, g2, g3, g4]
      cases a <;> cases b <;> cases c <;> cases o <;> rfl
  all_goals
    match ds, os, h1, h2 with
    | [d], [a], _, _ =>
      have g1 : isR d 0 3 = !a := h3 0 4 d rfl rfl
      cases a <;> simp [outD, g1] <;> rfl
def spLaw (K : PySem.W.Frag) : Sp := fun vs H Q _ => ∃ (a : Addr) (ns : List Int), vs = [.ref a] ∧ SqL K H a (ns.map V.int) ∧ ns.length ≤ 63 ∧ ∀ H', Q (.bl true) H'
theorem k_law {f : Addr} {fd : FuncData} (F : Fun K "law" "law" s_law f fd) (D__law_pot : Dn P w K mg base 2 "_law_pot" ["_law_script", "_law_k"] (spPot K)) (D__law_draw : Dn P w K mg base 1 "_law_draw" ["_law_pot_here", "_law_many"] spTake) (D__law_kinds : Dn P w K mg base 1 "_law_kinds" ["_law_which"] (spKinds K)) (D__law_bounds : Dn P w K mg base 1 "_law_bounds" ["_law_kind", "_law_k"] (spBnd K)) (D__law_good : Dn P w K mg base 2 "_law_good" ["_law_pot_here", "_law_bounds_here"] (spGood K)) (D__law_odd : Dn P w K mg base 2 "_law_odd" ["_law_pot_here", "_law_least", "_law_most"] (spOdd K)) (D__law_met : Dn P w K mg base 16 "_law_met" ["_law_which", "_law_things"] (spMet K)) (D__law_due : Dn P w K mg base 2 "_law_due" ["_law_kinds_here", "_law_odd_here"] (spDue K)) : FnG P w K mg base CX0 17 f fd ["_law_script"] (spLaw K) := by
  refine okG0 F sc_law (fun vs H Q E h => ?_) (fun cdv A outer s H vs Q E hr h => ⟨_, (pss_cons (ps_for PassesOwn.never rfl (pi_range1 (by rfl) B.range_ (pa_cons (pe_callB (call_max2 rfl) (by rfl) B.max_ (by decide +kernel) (pa_cons pe_int (pa_cons (pe_callB (call_min2 rfl) (by rfl) B.min_ (by decide +kernel) (pa_cons pe_int (pa_cons (pe_callB (lenK (K := K)) (by rfl) B.len_ (by decide +kernel) (pa_cons (pv 0) pa_nil)) pa_nil))) pa_nil))) pa_nil)) (pg_name (i := 1) sc_law.nd rfl (Or.inl rfl))
      (pss_cons (ps_set (i := 2) sc_law.nd rfl (Or.inl rfl) (pe_cD D__law_pot (hr.less (by decide)) rfl (pa_cons (pv 0) (pa_cons (pv 1) pa_nil))))
      (pss_cons (ps_set (i := 3) sc_law.nd rfl (Or.inl rfl) (pe_cD D__law_draw (hr.less (by decide)) rfl (pa_cons (pv 2) (pa_cons pe_int pa_nil))))
      (pss_cons (ps_set (i := 4) sc_law.nd rfl (Or.inl rfl) (pe_cD D__law_kinds (hr.less (by decide)) rfl (pa_cons (pv 3) pa_nil)))
      (pss_cons (ps_set (i := 5) sc_law.nd rfl (Or.inl rfl) (pe_op op_rep (pe_lst (pa_cons pe_bl pa_nil)) (pe_callB (lenK (K := K)) (by rfl) B.len_ (by decide +kernel) (pa_cons (pv 4) pa_nil))))
      (pss_cons (ps_for PassesOwn.never rfl (pi_range1 (by rfl) B.range_ (pa_cons (pe_cD D__law_draw (hr.less (by decide)) rfl (pa_cons (pv 2) (pa_cons pe_int pa_nil))) pa_nil)) (pg_name (i := 6) sc_law.nd rfl (Or.inl rfl))
        (pss_one (ps_asg pe_bl (pg_sub (pv 5) (pe_cD D__law_draw (hr.less (by decide)) rfl (pa_cons (pv 2) (pa_cons (pe_callB (lenK (K := K)) (by rfl) B.len_ (by decide +kernel) (pa_cons (pv 4) pa_nil)) pa_nil))) set_list))))
      (pss_cons (ps_set (i := 7) sc_law.nd rfl (Or.inl rfl) (pe_cD D__law_draw (hr.less (by decide)) rfl (pa_cons (pv 2) (pa_cons pe_int pa_nil))))
      (pss_cons (ps_set (i := 8) sc_law.nd rfl (Or.inl rfl) (pe_lst pa_nil))
      (pss_cons (ps_for PassesOwn.never rfl (kk (K := K) (F := fun K => RZ.iZipA K _) (P := PI _ _ _) (RZ.pi_zipA (by rfl) B.zip_ (pa_cons (pv 4) (pa_cons (pv 5) pa_nil)))) (kk (K := K) (F := fun K => gTup K 2 _) (P := PG _ _) (pg_tup rfl (pgs_cons (pg_name (i := 9) sc_law.nd rfl (Or.inl rfl)) (pgs_cons (pg_name (i := 10) sc_law.nd rfl (Or.inl rfl)) pgs_nil))))
        (pss_cons (ps_set (i := 11) sc_law.nd rfl (Or.inl rfl) (pe_cD D__law_bounds (hr.less (by decide)) rfl (pa_cons (pv 9) (pa_cons (pv 7) pa_nil))))
        (pss_cons (ps_set (i := 12) sc_law.nd rfl (Or.inl rfl) (pe_ifExp (pt_cmpR (kk (K := K) (F := fun K => rIn K false) (P := OpR _ _) op_in_seq) (pv 9) (pe_tup (pa_cons pe_str (pa_cons pe_str pa_nil))) (by rfl)) (pv 7) (pe_cD D__law_good (hr.less (by decide)) rfl (pa_cons (pv 2) (pa_cons (pv 11) pa_nil)))))
        (pss_one (ps_expr (kk (K := K) (F := fun K => tBM K "list" _ _ _) (P := PE _ _) (pe_bm PySem.F.plainAttrs_list PySem.F.slot_list_append PySem.F.type_list_append mt_append (pv 8) (pa_cons (pe_ifExp (pt_val (pv 10)) (pe_cD D__law_odd (hr.less (by decide)) rfl (pa_cons (pv 2) (pa_cons (pe_ix (kk (K := K) (F := rIxT) (P := IxR _) ix_tup) (pv 11) pe_int (fun _ _ => rfl)) (pa_cons (pe_ix (kk (K := K) (F := rIxT) (P := IxR _) ix_tup) (pv 11) pe_int (fun _ _ => rfl)) pa_nil)))) (pv 12)) pa_nil))))))))
      (pss_one (ps_if (pt_cmpR (kk (K := K) (F := rNeD) (P := OpR _ _) (op_neD hr.units)) (pe_cD D__law_met (hr.less (by decide)) rfl (pa_cons (pv 3) (pa_cons (pv 8) pa_nil))) (pe_cD D__law_due (hr.less (by decide)) rfl (pa_cons (pv 4) (pa_cons (pv 5) pa_nil))) (nomark _))
       (pss_one (ps_ret pe_bl))
       pss_nil)))))))))))
    (pss_one (ps_ret pe_bl))), ?_⟩)
  · obtain ⟨a, ns, rfl, _⟩ := h; rfl
  · obtain ⟨a, ns, rfl, hs, hn, q⟩ := h
    try walk_at "go"
    have hN : (if (if (((ns.map V.int).length : Nat) : Int) < 8 then (((ns.map V.int).length : Nat) : Int) else 8) > 1 then (if (((ns.map V.int).length : Nat) : Int) < 8 then (((ns.map V.int).length : Nat) : Int) else 8) else 1).toNat ≤ 8 := by split <;> split <;> omega
    generalize (if (if (((ns.map V.int).length : Nat) : Int) < 8 then (((ns.map V.int).length : Nat) : Int) else 8) > 1 then (if (((ns.map V.int).length : Nat) : Int) < 8 then (((ns.map V.int).length : Nat) : Int) else 8) else 1).toNat = n at hN
    refine for_range (lo := 0) (n := n) (fun i σ H' => Kept (∃ s1 s2 s3 s4 s5 s6 s7 s8 s9 s10 s11 s12, σ = [some (.ref a), s1, s2, s3, s4, s5, s6, s7, s8, s9, s10, s11, s12] ∧ Same H H')) ⟨⟨_, _, _, _, _, _, _, _, _, _, _, _, rfl, Same.refl _⟩⟩ ?_ ?_
    · rintro i σ H1 hi ⟨s1, s2, s3, s4, s5, s6, s7, s8, s9, s10, s11, s12, rfl, S1⟩
      rw [Int.zero_add]
      have hs1 := S1.seq hs
      have i60 : i ≤ 60 := by omega
      try walk_at "go"
      intro p H2 np S2 p2
      try walk_at "go"
      intro w0 H3 w1 w2 b3 p3
      obtain ⟨w, rfl⟩ : ∃ w : Nat, w0 = (w : Int) := ⟨w0.toNat, by omega⟩
      have hw : w < 7 := by omega
      have kl : 1 ≤ (kn w).length ∧ (kn w).length ≤ 4 := by unfold kn; split <;> decide
      have ml : ((kn w).map fun c => V.str (nm c)).length = (kn w).length := List.length_map _
      try walk_at "go"
      intro A H4 S4 hA
      have p4 := p3.same S4
      try walk_at "go"
      intro L1 hL1
      generalize eH5 : upd _ L1 _ = H5
      have SH5 := newS eH5 hL1
      have oL1 := newO eH5
      have p5 := p4.same SH5
      have hA5 := SH5 _ _ hA
      try walk_at "go"
      intro O hO
      generalize eH6 : upd _ O _ = H6
      have SH6 := newS eH6 hO
      have oO := newO eH6
      have oO0 : H6 O = some (.lst ((List.replicate (kn w).length false).map V.bl)) := by
        rw [oO, ml, Int.toNat_natCast, rep_flat1, List.map_replicate]
      clear oO eH6
      have p6 := p5.same SH6
      have hA6 := SH6 _ _ hA5
      have nOp : O ≠ p := pot_ne p5 hO
      have nAp : A ≠ p := fun z => by
        obtain ⟨_, _, h1, _⟩ := p6
        rw [← z, hA6] at h1
        have e := HO.lst.inj (Option.some.inj h1)
        cases ek : kn w with
        | nil => rw [ek] at kl; exact absurd kl.1 (by decide)
        | cons c r => rw [ek] at e; cases e
      try walk_at "go"
      intro m0 H7 m1 m2 b7 p7
      try walk_at "go"
      refine for_range (lo := 0) (n := m0.toNat) (fun j σ H' => Kept (∃ (os : List Bool) (s6 s7 s8 s9 s10 s11 s12 : Option V), σ = [some (.ref a), some (.int i), some (.ref p), some (.int w), some (.ref A), some (.ref O), s6, s7, s8, s9, s10, s11, s12] ∧ But p H5 H' ∧ PotAt H' p ∧ H' O = some (.lst (os.map V.bl)) ∧ os.length = (kn w).length)) ⟨⟨_, _, _, _, _, _, _, _, rfl, (same_but SH6).trans b7, p7, b7 _ _ nOp oO0, List.length_replicate⟩⟩ ?_ ?_
      · rintro j σ H8 hj ⟨os, s6, s7, s8, s9, s10, s11, s12, rfl, b8, p8, oO8, lo⟩
        have hA8 := b8 _ _ nAp hA5
        try walk_at "go"
        intro e0 H9 e1 e2 b9 p9
        obtain ⟨e, rfl⟩ : ∃ e : Nat, e0 = (e : Int) := ⟨e0.toNat, by omega⟩
        rw [ml] at e2
        have oO9 := b9 _ _ nOp oO8
        have el : e < os.length := by omega
        try walk_at "go"
        have hfO : H5 O = none := hO
        refine ⟨⟨os.set e true, _, _, _, _, _, _, _, rfl, but_upd hfO (b8.trans b9), p9.upd (Ne.symm nOp), by rw [upd_same, List.map_set], by rw [List.length_set]; exact lo⟩⟩
      rintro σ H8 ⟨os, s6, s7, s8, s9, s10, s11, s12, rfl, b8, p8, oO8, lo⟩
      have hA8 := b8 _ _ nAp hA5
      try walk_at "go"
      intro k0 H9 k1 k2 b9 p9
      obtain ⟨k, rfl⟩ : ∃ k : Nat, k0 = (k : Int) := ⟨k0.toNat, by omega⟩
      have k4 : k < 4 := by omega
      have oO9 := b9 _ _ nOp oO8
      have hA9 := b9 _ _ nAp hA8
      try walk_at "go"
      intro Lt hLt
      generalize eH10 : upd _ Lt _ = H10
      have SH10 := newS eH10 hLt
      have oLt := newO eH10
      have nLp : Lt ≠ p := pot_ne p9 hLt
      have hN0 : PotAt H10 p := p9.same SH10
      have lmO : (os.map V.bl).length = (kn w).length := by rw [List.length_map]; exact lo
      have hAO : ∀ H' : Hp, But p H9 H' → H' A = some (.lst ((kn w).map fun c => V.str (nm c))) ∧ H' O = some (.lst (os.map V.bl)) := fun H' b => ⟨b _ _ nAp hA9, b _ _ nOp oO9⟩
      have hA10 := (hAO _ (same_but SH10)).1
      have hO10 := (hAO _ (same_but SH10)).2
      try walk_at "go"
      refine RZ.for_zipL (K := K) (a := A) (b := O) (xs := (kn w).map fun c => V.str (nm c)) (ys := os.map V.bl) (by rw [lmO, ml]) (fun j σ H' => Kept (∃ (tr : List (V × PyData)) (s9 s10 s11 s12 : Option V), σ = [some (.ref a), some (.int i), some (.ref p), some (.int w), some (.ref A), some (.ref O), s6, some (.int k), some (.ref Lt), s9, s10, s11, s12] ∧ But p H9 H' ∧ PotAt H' p ∧ H' Lt = some (.lst (tr.map fun t => t.1)) ∧ tr.length = j ∧ (∀ t ∈ tr, ThL K (fun x => x = p ∨ x = Lt) H' t.1 t.2 ∧ ib t.2 ≤ 10 ^ 85) ∧
        (∀ (m c : Nat) (d : PyData), (kn w)[m]? = some c → (tr.map fun t => t.2)[m]? = some d → isB d 0 (hiB c k) = !os.getD m false) ∧ (∀ (m c : Nat) (d : PyData), (kn w)[m]? = some c → (tr.map fun t => t.2)[m]? = some d → c = 0 → os.getD m false = false → d = .int k))) ⟨⟨[], _, _, _, _, rfl, same_but SH10, hN0, oLt, rfl, (fun t h => (List.not_mem_nil h).elim), (fun m c d _ h => by cases h), (fun m c d _ h => by cases h)⟩⟩ (fun j σ H' h => by obtain ⟨_, _, _, _, _, _, b, _⟩ := h.ex; exact ⟨SqL.of (hAO _ b).1, SqL.of (hAO _ b).2⟩) ?_ ?_
      · rintro j x y T σ H11 hx hy ⟨tr, s9, s10, s11, s12, rfl, b11, p11, oL11, lt, htr, hB, hG⟩ hT
        rw [List.getElem?_map] at hx hy
        obtain ⟨c, hc, rfl⟩ := Option.map_eq_some_iff.mp hx
        obtain ⟨b, hb, rfl⟩ := Option.map_eq_some_iff.mp hy
        have eb : os.getD j false = b := by rw [List.getD_eq_getElem?_getD, hb] <;> rfl
        have jl : j < (kn w).length := (List.getElem?_eq_some_iff.mp hc).1
        have c5 := kn_lt (List.mem_of_getElem? hc)
        generalize eH12 : upd _ T (HO.tup [.str (nm c), .bl b]) = H12
        have SH12 := newS eH12 hT
        have oT := newO eH12
        have p12 := p11.same SH12
        have oL12 := SH12 _ _ oL11
        have k44 : k ≤ 4 := by omega
        try walk_at "go"
        intro Tb H13 S13 oTb
        have p13 := p12.same S13
        have oL13 := S13 _ _ oL12
        try walk_at "go"
        intro U hU
        generalize eH14 : upd _ U _ = H14
        have SH14 := newS eH14 hU
        have oU := newO eH14
        have p14 := p13.same SH14
        have oL14 := SH14 _ _ oL13
        have oTb14 := SH14 _ _ oTb
        have hib : ∀ m, hiB c k = some m → 0 ≤ m ∧ m ≤ 1000 := hiB_ok k44
        have B14 : But p H11 H14 := same_but (SH12.trans (S13.trans SH14))
        have oLs : ∀ H', But p H14 H' → H' Lt = some (.lst (tr.map fun t => t.1)) := fun H' be => be _ _ nLp oL14
        have fin : ∀ (v : V) (d : PyData) (H' : Hp), But p H14 H' → PotAt H' p → ThL K (fun x => x = p ∨ x = Lt) H' v d → isB d 0 (hiB c k) = !b → (c = 0 → b = false → d = .int k) → ib d ≤ 10 ^ 85 →
            But p H9 (L2.upd H' Lt (.lst ((tr.map fun t => t.1) ++ [v]))) ∧ PotAt (L2.upd H' Lt (.lst ((tr.map fun t => t.1) ++ [v]))) p ∧ (L2.upd H' Lt (.lst ((tr.map fun t => t.1) ++ [v]))) Lt = some (.lst ((tr ++ [(v, d)]).map fun t => t.1)) ∧ (tr ++ [(v, d)]).length = j + 1 ∧
            (∀ t ∈ tr ++ [(v, d)], ThL K (fun x => x = p ∨ x = Lt) (L2.upd H' Lt (.lst ((tr.map fun t => t.1) ++ [v]))) t.1 t.2 ∧ ib t.2 ≤ 10 ^ 85) ∧
            (∀ (m c : Nat) (d' : PyData), (kn w)[m]? = some c → ((tr ++ [(v, d)]).map fun t => t.2)[m]? = some d' → isB d' 0 (hiB c k) = !os.getD m false) ∧ (∀ (m c : Nat) (d' : PyData), (kn w)[m]? = some c → ((tr ++ [(v, d)]).map fun t => t.2)[m]? = some d' → c = 0 → os.getD m false = false → d' = .int k) := by
          intro v d H' be pe th h1 h2 h3
          have oL' := oLs _ be
          refine ⟨but_upd hLt (b11.trans (B14.trans be)), pe.upd (Ne.symm nLp), by rw [upd_same, List.map_append] <;> rfl, by rw [List.length_append, lt] <;> rfl, fun t ht => ?_, fun m c' d' hm hd => ?_, fun m c' d' hm hd => ?_⟩
          · rcases List.mem_append.mp ht with ht | ht
            · exact ⟨(((htr t ht).1.same (SH12.trans (S13.trans SH14))).but (.inl rfl) be p14.choose_spec.choose_spec.1).but (.inr rfl) But.upd oL', (htr t ht).2⟩
            · cases List.mem_singleton.mp ht
              exact ⟨th.but (.inr rfl) But.upd oL', h3⟩
          · by_cases e : m < tr.length
            · rw [List.map_append, List.getElem?_append_left (by rw [List.length_map]; exact e)] at hd
              exact hB m c' d' hm hd
            · have := (List.getElem?_eq_some_iff.mp hd).1
              rw [List.length_map, List.length_append, List.length_singleton] at this
              obtain rfl : m = j := by omega
              rw [hc] at hm
              cases hm
              rw [List.map_append, List.getElem?_append_right (by rw [List.length_map]; omega), List.length_map, lt, Nat.sub_self] at hd
              cases hd
              rw [eb]; exact h1
          · by_cases e : m < tr.length
            · rw [List.map_append, List.getElem?_append_left (by rw [List.length_map]; exact e)] at hd
              exact hG m c' d' hm hd
            · have := (List.getElem?_eq_some_iff.mp hd).1
              rw [List.length_map, List.length_append, List.length_singleton] at this
              obtain rfl : m = j := by omega
              rw [hc] at hm
              cases hm
              rw [List.map_append, List.getElem?_append_right (by rw [List.length_map]; omega), List.length_map, lt, Nat.sub_self] at hd
              cases hd
              rw [eb]; exact h2
        have oddS : ∀ Hc H' v d, But p H14 Hc → PotAt Hc p → ThL K (fun x => Hc x ≠ none) H' v d → ThL K (fun x => x = p ∨ x = Lt) H' v d := fun Hc H' v d be pe th => th.mono fun x hx => by
          rcases hx with rfl | rfl
          · rw [pe.choose_spec.choose_spec.1]; exact fun z => by cases z
          · rw [oLs _ be]; exact fun z => by cases z
        have sm := sm_in c5
        try walk_at "go"
        refine ite2 (fun c1 => ?_) (fun c1 => ?_)
        · replace c1 : inV (V.str (nm c)) [V.str "net", V.str "small"] = true := c1
          rw [sm] at c1
          have c1 := of_decide_eq_true c1
          cases b with
          | true =>
            try walk_at "go"
            intro v d H15 be pe th h1 h2
            have oL15 := oLs _ be
            try walk_at "go"
            exact ⟨⟨tr ++ [(v, d)], _, _, _, _, rfl, fin v d H15 be pe (oddS _ _ _ _ But.refl p14 th) h1 (fun _ z => by cases z) (Nat.le_trans h2 (by decide))⟩⟩
          | false =>
            try walk_at "go"
            refine ⟨⟨tr ++ [(.int k, .int k)], _, _, _, _, rfl, fin (.int k) (.int k) H14 But.refl p14 (.int _) ?_ (fun _ _ => rfl) ?_⟩⟩
            · rcases c1 with rfl | rfl
              · show isR (.int (k : Int)) 0 4 = true
                exact isR_mk (by omega) (by omega)
              · show isR (.int (k : Int)) 0 3 = true
                exact isR_mk (by omega) (by omega)
            · show (k : Int).natAbs ≤ 10 ^ 85
              omega
        · replace c1 : ¬ inV (V.str (nm c)) [V.str "net", V.str "small"] = true := c1
          rw [sm] at c1
          have c1 : ¬ (c = 0 ∨ c = 4) := fun z => c1 (decide_eq_true z)
          try walk_at "go"
          intro x H15 b15 p15 xB xz
          have oL15 := oLs _ b15
          have oTb15 := pot_keep b15 p14 _ _ oTb14
          cases b with
          | true =>
            try walk_at "go"
            intro v d H16 be pe th h1 h2
            have oL16 := oLs _ (b15.trans be)
            try walk_at "go"
            exact ⟨⟨tr ++ [(v, d)], _, _, _, _, rfl, fin v d H16 (b15.trans be) pe (oddS _ _ _ _ b15 p15 th) h1 (fun _ z => by cases z) (Nat.le_trans h2 (by decide))⟩⟩
          | false =>
            try walk_at "go"
            refine ⟨⟨tr ++ [(.int x, .int x)], _, _, _, _, rfl, fin (.int x) (.int x) H15 b15 p15 (.int _) xB (fun z => absurd (.inl z) c1) ?_⟩⟩
            have x0 : 0 ≤ x := by
              by_cases e : x < 0
              · rw [isB_low e] at xB; cases xB
              · omega
            show x.natAbs ≤ 10 ^ 85
            omega
      rintro σ H11 ⟨tr, s9, s10, s11, s12, rfl, b11, p11, oL11, lt, htr, hB, hG⟩
      rw [ml] at lt
      obtain ⟨hA11, hO11⟩ := hAO _ b11
      have thp : ∀ t ∈ tr, Th K p H11 t.1 t.2 ∧ ib t.2 ≤ 10 ^ 85 := fun t ht => ⟨(htr t ht).1.th (.inl rfl), (htr t ht).2⟩
      try walk_at "go"
      intro M H12 S12 oM
      have hA12 := S12 _ _ hA11
      have hO12 := S12 _ _ hO11
      try walk_at "go"
      intro N H13 S13 oN
      have oM13 := S13 _ _ oM
      have eqd := due_out (k := k) hw (ds := tr.map fun t => t.2) (os := os) (by rw [List.length_map]; exact lt) lo hB hG
      rw [← eqd] at oN
      obtain ⟨x, y, z, e3⟩ := at_dv (bl3 (outD w (tr.map fun t => t.2))) rfl
      rw [e3] at oM13 oN
      have dM : Dp K H13 (.ref M) (.list [.bool x, .bool y, .bool z]) := .lst (SqL.of oM13) (.cons (.bl _) (.cons (.bl _) (.cons (.bl _) .nil)))
      have dN : Dp K H13 (.ref N) (.list [.bool x, .bool y, .bool z]) := .lst (SqL.of oN) (.cons (.bl _) (.cons (.bl _) (.cons (.bl _) .nil)))
      have sh : SeqAt.shaped (.list [.bool x, .bool y, .bool z]) = true := by cases x <;> cases y <;> cases z <;> decide +kernel
      try walk_at "go"
      refine ifF (by rw [SeqAt.eqv_refl _ (SeqAt.canLay_of_shaped sh)] <;> rfl) ?_
      have fin : Same H H13 := S1.trans (but_same np S2 ((b3.trans (same_but (S4.trans SH5))).trans (b8.trans (b9.trans (b11.trans (same_but (S12.trans S13)))))))
      exact ⟨⟨_, _, _, _, _, _, _, _, _, _, _, _, rfl, fin⟩⟩
    · rintro σ H1 ⟨s1, s2, s3, s4, s5, s6, s7, s8, s9, s10, s11, s12, rfl, S1⟩
      try walk_at "go"
      exact q _
end
structure AllD (K : PySem.W.Frag) (mg : Str → Option Value) : Prop where
  d__wall : Df K mg "_wall" s__wall ["k"]
  d_is_whole : Df K mg "is_whole" s_is_whole ["thing"]
  d_is_within : Df K mg "is_within" s_is_within ["thing", "least", "most"]
  d_want_within : Df K mg "want_within" s_want_within ["thing", "least", "most"]
  d_want_from : Df K mg "want_from" s_want_from ["thing", "least"]
  d_want_net : Dfd K mg "want_net" s_want_net ["k", "deepest"] [.int 4]
  d_piece_of : Df K mg "piece_of" s_piece_of ["k", "address"]
  d_folded_pieces : Df K mg "folded_pieces" s_folded_pieces ["k", "address"]
  d_place_of : Df K mg "place_of" s_place_of ["k", "address"]
  d_side_at : Df K mg "side_at" s_side_at ["k", "address"]
  d_side_of : Df K mg "side_of" s_side_of ["k", "address"]
  d_address_at : Df K mg "address_at" s_address_at ["k", "side", "place"]
  d_lying : Df K mg "lying" s_lying ["k", "begin", "step", "many"]
  d_merged : Df K mg "merged" s_merged ["one", "other"]
  d_counted_lines : Df K mg "counted_lines" s_counted_lines ["lines"]
  d_counting_net : Df K mg "counting_net" s_counting_net ["k"]
  d_toggles : Df K mg "toggles" s_toggles ["k"]
  d_counted : Df K mg "counted" s_counted ["k"]
  d__law_cell : Df K mg "_law_cell" s__law_cell ["_law_script", "_law_k"]
  d__law_pot : Df K mg "_law_pot" s__law_pot ["_law_script", "_law_k"]
  d__law_draw : Df K mg "_law_draw" s__law_draw ["_law_pot_here", "_law_many"]
  d__law_odd : Df K mg "_law_odd" s__law_odd ["_law_pot_here", "_law_least", "_law_most"]
  d__law_kinds : Df K mg "_law_kinds" s__law_kinds ["_law_which"]
  d__law_bounds : Df K mg "_law_bounds" s__law_bounds ["_law_kind", "_law_k"]
  d__law_good : Df K mg "_law_good" s__law_good ["_law_pot_here", "_law_bounds_here"]
  d__law_asked : Df K mg "_law_asked" s__law_asked ["_law_which", "_law_things"]
  d__law_met : Df K mg "_law_met" s__law_met ["_law_which", "_law_things"]
  d__law_due : Df K mg "_law_due" s__law_due ["_law_kinds_here", "_law_odd_here"]
  d_law : Df K mg "law" s_law ["_law_script"]
  d_Counter____init__ : DfI K (cAt mg "Counter") "Counter.__init__" s_Counter____init__ ["self", "k"]
  e_want_net : Dfd K mg "want_net" s_want_net ["k", "deepest"] []
  bl : Bl K mg
theorem all_mk {w : World} {K : PySem.W.Frag} {h : Heap} {mg : Str → Option Value} (X : K.In h) (G : h.Ns mainGlobals mg)
    {f1 f2 f3 f4 f5 f6 f7 f8 f9 f10 f11 f12 f13 f14 f15 f16 f17 f18 f19 f20 f21 f22 f23 f24 f25 f26 f27 f28 f29 f30 : Addr} {od1 an1 od2 an2 od3 an3 od4 an4 od5 an5 od6 an6 od7 an7 od8 an8 od9 an9 od10 an10 od11 an11 od12 an12 od13 an13 od14 an14 od15 an15 od16 an16 od17 an17 od18 an18 od19 an19 od20 an20 od21 an21 od22 an22 od23 an23 od24 an24 od25 an25 od26 an26 od27 an27 od28 an28 od29 an29 od30 an30 : Option Addr} {sl1 sl2 sl3 sl4 sl5 sl6 sl7 sl8 sl9 sl10 sl11 sl12 sl13 sl14 sl15 sl16 sl17 sl18 sl19 sl20 sl21 sl22 sl23 sl24 sl25 sl26 sl27 sl28 sl29 sl30 : Array (Option Value)} {oc1 kV1 dc1 pm1 cd1 ct1 oc2 kV2 dc2 pm2 cd2 ct2 oc3 kV3 dc3 pm3 cd3 ct3 oc4 kV4 dc4 pm4 cd4 ct4 oc5 kV5 dc5 pm5 cd5 ct5 oc6 kV6 dc6 pm6 cd6 ct6 oc7 kV7 dc7 pm7 cd7 ct7 oc8 kV8 dc8 pm8 cd8 ct8 oc9 kV9 dc9 pm9 cd9 ct9 oc10 kV10 dc10 pm10 cd10 ct10 oc11 kV11 dc11 pm11 cd11 ct11 oc12 kV12 dc12 pm12 cd12 ct12 oc13 kV13 dc13 pm13 cd13 ct13 oc14 kV14 dc14 pm14 cd14 ct14 oc15 kV15 dc15 pm15 cd15 ct15 oc16 kV16 dc16 pm16 cd16 ct16 oc17 kV17 dc17 pm17 cd17 ct17 oc18 kV18 dc18 pm18 cd18 ct18 oc19 kV19 dc19 pm19 cd19 ct19 oc20 kV20 dc20 pm20 cd20 ct20 oc21 kV21 dc21 pm21 cd21 ct21 oc22 kV22 dc22 pm22 cd22 ct22 oc23 kV23 dc23 pm23 cd23 ct23 oc24 kV24 dc24 pm24 cd24 ct24 oc25 kV25 dc25 pm25 cd25 ct25 oc26 kV26 dc26 pm26 cd26 ct26 oc27 kV27 dc27 pm27 cd27 ct27 oc28 kV28 dc28 pm28 cd28 ct28 oc29 kV29 dc29 pm29 cd29 ct29 oc30 kV30 dc30 pm30 cd30 ct30 : Value}
    {da6 : Addr}
    {C0 : Addr} (aC0 : PySem.W.nsIn K mainGlobals "Counter" = some (some (.ref C0))) (pg0 : PySem.W.plainGet K C0 Str.empty = true) (hd0 : PySem.W.hasDictIn K C0 = true) (po0 : PySem.W.plainOver K C0 = true) (sa0 : PySem.W.findIn K (.ref C0) "__setattr__" = some (some (.builtin "object.__setattr__"))) (mk0 : PySem.W.makesIn K C0 = true) (kc0 : PySem.W.keepIn K (.ref C0) = true)
    (nf0_0 : PySem.W.findIn K (.ref C0) "at" = some none)
    (nf0_1 : PySem.W.findIn K (.ref C0) "many_out" = some none)
    (nf0_2 : PySem.W.findIn K (.ref C0) "pairs" = some none)
    (nf0_3 : PySem.W.findIn K (.ref C0) "row" = some none)
    (nf0_4 : PySem.W.findIn K (.ref C0) "ups" = some none)
    {E0 : Addr} (aE0 : PySem.W.nsIn K mainGlobals "AskError" = some (some (.ref E0))) (xE0 : PySem.W.excIn K E0 [.type "ValueError", .type "Exception", .type "BaseException", .type "object"] "ValueError.__new__" = true) (kE0 : PySem.W.keepIn K (.ref E0) = true) (bE0 : PySem.W.subIn K (.ref E0) (.type "BaseException") = some true) (tE0 : PySem.W.typeIn K (.ref E0) = some (.type "type")) (iE0 : PySem.W.isClsIn K E0 = true)
    {E1 : Addr} (aE1 : PySem.W.nsIn K mainGlobals "NoNet" = some (some (.ref E1))) (xE1 : PySem.W.excIn K E1 [.type "ValueError", .type "Exception", .type "BaseException", .type "object"] "ValueError.__new__" = true) (kE1 : PySem.W.keepIn K (.ref E1) = true) (bE1 : PySem.W.subIn K (.ref E1) (.type "BaseException") = some true) (tE1 : PySem.W.typeIn K (.ref E1) = some (.type "type")) (iE1 : PySem.W.isClsIn K E1 = true)
    {E2 : Addr} (aE2 : PySem.W.nsIn K mainGlobals "NoNumber" = some (some (.ref E2))) (xE2 : PySem.W.excIn K E2 [.type "ValueError", .type "Exception", .type "BaseException", .type "object"] "ValueError.__new__" = true) (kE2 : PySem.W.keepIn K (.ref E2) = true) (bE2 : PySem.W.subIn K (.ref E2) (.type "BaseException") = some true) (tE2 : PySem.W.typeIn K (.ref E2) = some (.type "type")) (iE2 : PySem.W.isClsIn K E2 = true)
    {E3 : Addr} (aE3 : PySem.W.nsIn K mainGlobals "NoSide" = some (some (.ref E3))) (xE3 : PySem.W.excIn K E3 [.type "ValueError", .type "Exception", .type "BaseException", .type "object"] "ValueError.__new__" = true) (kE3 : PySem.W.keepIn K (.ref E3) = true) (bE3 : PySem.W.subIn K (.ref E3) (.type "BaseException") = some true) (tE3 : PySem.W.typeIn K (.ref E3) = some (.type "type")) (iE3 : PySem.W.isClsIn K E3 = true)
    (sE1_0 : PySem.W.subIn K (.ref E1) (.ref E0) = some true)
    (sE1_1 : PySem.W.subIn K (.ref E1) (.ref E1) = some true)
    (sE1_2 : PySem.W.subIn K (.ref E1) (.ref E2) = some false)
    (sE1_3 : PySem.W.subIn K (.ref E1) (.ref E3) = some false)
    (sE2_0 : PySem.W.subIn K (.ref E2) (.ref E0) = some true)
    (sE2_1 : PySem.W.subIn K (.ref E2) (.ref E1) = some false)
    (sE2_2 : PySem.W.subIn K (.ref E2) (.ref E2) = some true)
    (sE2_3 : PySem.W.subIn K (.ref E2) (.ref E3) = some false)
    (sE3_0 : PySem.W.subIn K (.ref E3) (.ref E0) = some true)
    (sE3_1 : PySem.W.subIn K (.ref E3) (.ref E1) = some false)
    (sE3_2 : PySem.W.subIn K (.ref E3) (.ref E2) = some false)
    (sE3_3 : PySem.W.subIn K (.ref E3) (.ref E3) = some true)
    (spG : PySem.W.specialIn K (.builtin "object.__class__") "__get__" = some (some (.builtin "getset_descriptor.__get__"))) (tkG : PySem.W.takesIn K (.builtin "object.__class__") = some true)
    (ga1 : PySem.W.findIn K (.ref E1) "__getattribute__" = some (some (.builtin "BaseException.__getattribute__"))) (gt1 : PySem.W.findIn K (.ref E1) "__getattr__" = some none) (hi1 : PySem.W.hasDictIn K E1 = true) (fc1 : PySem.W.findIn K (.ref E1) "__class__" = some (some (.builtin "object.__class__"))) (mo1 : PySem.W.mroIn K E1 (.type "object") = some true) (vE1 : PySem.W.subIn K (.ref E1) (.type "ValueError") = some true)
    (ga2 : PySem.W.findIn K (.ref E2) "__getattribute__" = some (some (.builtin "BaseException.__getattribute__"))) (gt2 : PySem.W.findIn K (.ref E2) "__getattr__" = some none) (hi2 : PySem.W.hasDictIn K E2 = true) (fc2 : PySem.W.findIn K (.ref E2) "__class__" = some (some (.builtin "object.__class__"))) (mo2 : PySem.W.mroIn K E2 (.type "object") = some true) (vE2 : PySem.W.subIn K (.ref E2) (.type "ValueError") = some true)
    (ga3 : PySem.W.findIn K (.ref E3) "__getattribute__" = some (some (.builtin "BaseException.__getattribute__"))) (gt3 : PySem.W.findIn K (.ref E3) "__getattr__" = some none) (hi3 : PySem.W.hasDictIn K E3 = true) (fc3 : PySem.W.findIn K (.ref E3) "__class__" = some (some (.builtin "object.__class__"))) (mo3 : PySem.W.mroIn K E3 (.type "object") = some true) (vE3 : PySem.W.subIn K (.ref E3) (.type "ValueError") = some true)
    (a1 : PySem.W.nsIn K mainGlobals "_wall" = some (some (.ref f1))) (l1 : K.lookup f1 = some ⟨oc1, od1, .func (PySem.W.fnOf "_wall" "_wall" (defArgs s__wall) (defBody s__wall) (defScope s__wall) .none kV1 dc1 pm1 an1 cd1 ct1), sl1⟩) (c1 : PySem.W.codeIn K cd1 "_wall" = true) (k1 : PySem.W.keepIn K (.ref f1) = true)
    (a2 : PySem.W.nsIn K mainGlobals "is_whole" = some (some (.ref f2))) (l2 : K.lookup f2 = some ⟨oc2, od2, .func (PySem.W.fnOf "is_whole" "is_whole" (defArgs s_is_whole) (defBody s_is_whole) (defScope s_is_whole) .none kV2 dc2 pm2 an2 cd2 ct2), sl2⟩) (c2 : PySem.W.codeIn K cd2 "is_whole" = true) (k2 : PySem.W.keepIn K (.ref f2) = true)
    (a3 : PySem.W.nsIn K mainGlobals "is_within" = some (some (.ref f3))) (l3 : K.lookup f3 = some ⟨oc3, od3, .func (PySem.W.fnOf "is_within" "is_within" (defArgs s_is_within) (defBody s_is_within) (defScope s_is_within) .none kV3 dc3 pm3 an3 cd3 ct3), sl3⟩) (c3 : PySem.W.codeIn K cd3 "is_within" = true) (k3 : PySem.W.keepIn K (.ref f3) = true)
    (a4 : PySem.W.nsIn K mainGlobals "want_within" = some (some (.ref f4))) (l4 : K.lookup f4 = some ⟨oc4, od4, .func (PySem.W.fnOf "want_within" "want_within" (defArgs s_want_within) (defBody s_want_within) (defScope s_want_within) .none kV4 dc4 pm4 an4 cd4 ct4), sl4⟩) (c4 : PySem.W.codeIn K cd4 "want_within" = true) (k4 : PySem.W.keepIn K (.ref f4) = true)
    (a5 : PySem.W.nsIn K mainGlobals "want_from" = some (some (.ref f5))) (l5 : K.lookup f5 = some ⟨oc5, od5, .func (PySem.W.fnOf "want_from" "want_from" (defArgs s_want_from) (defBody s_want_from) (defScope s_want_from) .none kV5 dc5 pm5 an5 cd5 ct5), sl5⟩) (c5 : PySem.W.codeIn K cd5 "want_from" = true) (k5 : PySem.W.keepIn K (.ref f5) = true)
    (a6 : PySem.W.nsIn K mainGlobals "want_net" = some (some (.ref f6))) (l6 : K.lookup f6 = some ⟨oc6, od6, .func (PySem.W.fnOf "want_net" "want_net" (defArgs s_want_net) (defBody s_want_net) (defScope s_want_net) (.ref da6) kV6 dc6 pm6 an6 cd6 ct6), sl6⟩) (c6 : PySem.W.codeIn K cd6 "want_net" = true) (k6 : PySem.W.keepIn K (.ref f6) = true)
    {dt6_0 : Tok} {dd6 : Option Addr} {dn6 : Nat} {dz6 : Array (Option Value)} (dl6 : K.lookup da6 = some ⟨.type "tuple", dd6, .seq #[.int 4 dt6_0] dn6, dz6⟩)
    (a7 : PySem.W.nsIn K mainGlobals "piece_of" = some (some (.ref f7))) (l7 : K.lookup f7 = some ⟨oc7, od7, .func (PySem.W.fnOf "piece_of" "piece_of" (defArgs s_piece_of) (defBody s_piece_of) (defScope s_piece_of) .none kV7 dc7 pm7 an7 cd7 ct7), sl7⟩) (c7 : PySem.W.codeIn K cd7 "piece_of" = true) (k7 : PySem.W.keepIn K (.ref f7) = true)
    (a8 : PySem.W.nsIn K mainGlobals "folded_pieces" = some (some (.ref f8))) (l8 : K.lookup f8 = some ⟨oc8, od8, .func (PySem.W.fnOf "folded_pieces" "folded_pieces" (defArgs s_folded_pieces) (defBody s_folded_pieces) (defScope s_folded_pieces) .none kV8 dc8 pm8 an8 cd8 ct8), sl8⟩) (c8 : PySem.W.codeIn K cd8 "folded_pieces" = true) (k8 : PySem.W.keepIn K (.ref f8) = true)
    (a9 : PySem.W.nsIn K mainGlobals "place_of" = some (some (.ref f9))) (l9 : K.lookup f9 = some ⟨oc9, od9, .func (PySem.W.fnOf "place_of" "place_of" (defArgs s_place_of) (defBody s_place_of) (defScope s_place_of) .none kV9 dc9 pm9 an9 cd9 ct9), sl9⟩) (c9 : PySem.W.codeIn K cd9 "place_of" = true) (k9 : PySem.W.keepIn K (.ref f9) = true)
    (a10 : PySem.W.nsIn K mainGlobals "side_at" = some (some (.ref f10))) (l10 : K.lookup f10 = some ⟨oc10, od10, .func (PySem.W.fnOf "side_at" "side_at" (defArgs s_side_at) (defBody s_side_at) (defScope s_side_at) .none kV10 dc10 pm10 an10 cd10 ct10), sl10⟩) (c10 : PySem.W.codeIn K cd10 "side_at" = true) (k10 : PySem.W.keepIn K (.ref f10) = true)
    (a11 : PySem.W.nsIn K mainGlobals "side_of" = some (some (.ref f11))) (l11 : K.lookup f11 = some ⟨oc11, od11, .func (PySem.W.fnOf "side_of" "side_of" (defArgs s_side_of) (defBody s_side_of) (defScope s_side_of) .none kV11 dc11 pm11 an11 cd11 ct11), sl11⟩) (c11 : PySem.W.codeIn K cd11 "side_of" = true) (k11 : PySem.W.keepIn K (.ref f11) = true)
    (a12 : PySem.W.nsIn K mainGlobals "address_at" = some (some (.ref f12))) (l12 : K.lookup f12 = some ⟨oc12, od12, .func (PySem.W.fnOf "address_at" "address_at" (defArgs s_address_at) (defBody s_address_at) (defScope s_address_at) .none kV12 dc12 pm12 an12 cd12 ct12), sl12⟩) (c12 : PySem.W.codeIn K cd12 "address_at" = true) (k12 : PySem.W.keepIn K (.ref f12) = true)
    (a13 : PySem.W.nsIn K mainGlobals "lying" = some (some (.ref f13))) (l13 : K.lookup f13 = some ⟨oc13, od13, .func (PySem.W.fnOf "lying" "lying" (defArgs s_lying) (defBody s_lying) (defScope s_lying) .none kV13 dc13 pm13 an13 cd13 ct13), sl13⟩) (c13 : PySem.W.codeIn K cd13 "lying" = true) (k13 : PySem.W.keepIn K (.ref f13) = true)
    (a14 : PySem.W.nsIn K mainGlobals "merged" = some (some (.ref f14))) (l14 : K.lookup f14 = some ⟨oc14, od14, .func (PySem.W.fnOf "merged" "merged" (defArgs s_merged) (defBody s_merged) (defScope s_merged) .none kV14 dc14 pm14 an14 cd14 ct14), sl14⟩) (c14 : PySem.W.codeIn K cd14 "merged" = true) (k14 : PySem.W.keepIn K (.ref f14) = true)
    (a15 : PySem.W.nsIn K mainGlobals "counted_lines" = some (some (.ref f15))) (l15 : K.lookup f15 = some ⟨oc15, od15, .func (PySem.W.fnOf "counted_lines" "counted_lines" (defArgs s_counted_lines) (defBody s_counted_lines) (defScope s_counted_lines) .none kV15 dc15 pm15 an15 cd15 ct15), sl15⟩) (c15 : PySem.W.codeIn K cd15 "counted_lines" = true) (k15 : PySem.W.keepIn K (.ref f15) = true)
    (a16 : PySem.W.nsIn K mainGlobals "counting_net" = some (some (.ref f16))) (l16 : K.lookup f16 = some ⟨oc16, od16, .func (PySem.W.fnOf "counting_net" "counting_net" (defArgs s_counting_net) (defBody s_counting_net) (defScope s_counting_net) .none kV16 dc16 pm16 an16 cd16 ct16), sl16⟩) (c16 : PySem.W.codeIn K cd16 "counting_net" = true) (k16 : PySem.W.keepIn K (.ref f16) = true)
    (a17 : PySem.W.nsIn K mainGlobals "toggles" = some (some (.ref f17))) (l17 : K.lookup f17 = some ⟨oc17, od17, .func (PySem.W.fnOf "toggles" "toggles" (defArgs s_toggles) (defBody s_toggles) (defScope s_toggles) .none kV17 dc17 pm17 an17 cd17 ct17), sl17⟩) (c17 : PySem.W.codeIn K cd17 "toggles" = true) (k17 : PySem.W.keepIn K (.ref f17) = true)
    (a18 : PySem.W.nsIn K mainGlobals "counted" = some (some (.ref f18))) (l18 : K.lookup f18 = some ⟨oc18, od18, .func (PySem.W.fnOf "counted" "counted" (defArgs s_counted) (defBody s_counted) (defScope s_counted) .none kV18 dc18 pm18 an18 cd18 ct18), sl18⟩) (c18 : PySem.W.codeIn K cd18 "counted" = true) (k18 : PySem.W.keepIn K (.ref f18) = true)
    (a19 : PySem.W.nsIn K mainGlobals "_law_cell" = some (some (.ref f19))) (l19 : K.lookup f19 = some ⟨oc19, od19, .func (PySem.W.fnOf "_law_cell" "_law_cell" (defArgs s__law_cell) (defBody s__law_cell) (defScope s__law_cell) .none kV19 dc19 pm19 an19 cd19 ct19), sl19⟩) (c19 : PySem.W.codeIn K cd19 "_law_cell" = true) (k19 : PySem.W.keepIn K (.ref f19) = true)
    (a20 : PySem.W.nsIn K mainGlobals "_law_pot" = some (some (.ref f20))) (l20 : K.lookup f20 = some ⟨oc20, od20, .func (PySem.W.fnOf "_law_pot" "_law_pot" (defArgs s__law_pot) (defBody s__law_pot) (defScope s__law_pot) .none kV20 dc20 pm20 an20 cd20 ct20), sl20⟩) (c20 : PySem.W.codeIn K cd20 "_law_pot" = true) (k20 : PySem.W.keepIn K (.ref f20) = true)
    (a21 : PySem.W.nsIn K mainGlobals "_law_draw" = some (some (.ref f21))) (l21 : K.lookup f21 = some ⟨oc21, od21, .func (PySem.W.fnOf "_law_draw" "_law_draw" (defArgs s__law_draw) (defBody s__law_draw) (defScope s__law_draw) .none kV21 dc21 pm21 an21 cd21 ct21), sl21⟩) (c21 : PySem.W.codeIn K cd21 "_law_draw" = true) (k21 : PySem.W.keepIn K (.ref f21) = true)
    (a22 : PySem.W.nsIn K mainGlobals "_law_odd" = some (some (.ref f22))) (l22 : K.lookup f22 = some ⟨oc22, od22, .func (PySem.W.fnOf "_law_odd" "_law_odd" (defArgs s__law_odd) (defBody s__law_odd) (defScope s__law_odd) .none kV22 dc22 pm22 an22 cd22 ct22), sl22⟩) (c22 : PySem.W.codeIn K cd22 "_law_odd" = true) (k22 : PySem.W.keepIn K (.ref f22) = true)
    (a23 : PySem.W.nsIn K mainGlobals "_law_kinds" = some (some (.ref f23))) (l23 : K.lookup f23 = some ⟨oc23, od23, .func (PySem.W.fnOf "_law_kinds" "_law_kinds" (defArgs s__law_kinds) (defBody s__law_kinds) (defScope s__law_kinds) .none kV23 dc23 pm23 an23 cd23 ct23), sl23⟩) (c23 : PySem.W.codeIn K cd23 "_law_kinds" = true) (k23 : PySem.W.keepIn K (.ref f23) = true)
    (a24 : PySem.W.nsIn K mainGlobals "_law_bounds" = some (some (.ref f24))) (l24 : K.lookup f24 = some ⟨oc24, od24, .func (PySem.W.fnOf "_law_bounds" "_law_bounds" (defArgs s__law_bounds) (defBody s__law_bounds) (defScope s__law_bounds) .none kV24 dc24 pm24 an24 cd24 ct24), sl24⟩) (c24 : PySem.W.codeIn K cd24 "_law_bounds" = true) (k24 : PySem.W.keepIn K (.ref f24) = true)
    (a25 : PySem.W.nsIn K mainGlobals "_law_good" = some (some (.ref f25))) (l25 : K.lookup f25 = some ⟨oc25, od25, .func (PySem.W.fnOf "_law_good" "_law_good" (defArgs s__law_good) (defBody s__law_good) (defScope s__law_good) .none kV25 dc25 pm25 an25 cd25 ct25), sl25⟩) (c25 : PySem.W.codeIn K cd25 "_law_good" = true) (k25 : PySem.W.keepIn K (.ref f25) = true)
    (a26 : PySem.W.nsIn K mainGlobals "_law_asked" = some (some (.ref f26))) (l26 : K.lookup f26 = some ⟨oc26, od26, .func (PySem.W.fnOf "_law_asked" "_law_asked" (defArgs s__law_asked) (defBody s__law_asked) (defScope s__law_asked) .none kV26 dc26 pm26 an26 cd26 ct26), sl26⟩) (c26 : PySem.W.codeIn K cd26 "_law_asked" = true) (k26 : PySem.W.keepIn K (.ref f26) = true)
    (a27 : PySem.W.nsIn K mainGlobals "_law_met" = some (some (.ref f27))) (l27 : K.lookup f27 = some ⟨oc27, od27, .func (PySem.W.fnOf "_law_met" "_law_met" (defArgs s__law_met) (defBody s__law_met) (defScope s__law_met) .none kV27 dc27 pm27 an27 cd27 ct27), sl27⟩) (c27 : PySem.W.codeIn K cd27 "_law_met" = true) (k27 : PySem.W.keepIn K (.ref f27) = true)
    (a28 : PySem.W.nsIn K mainGlobals "_law_due" = some (some (.ref f28))) (l28 : K.lookup f28 = some ⟨oc28, od28, .func (PySem.W.fnOf "_law_due" "_law_due" (defArgs s__law_due) (defBody s__law_due) (defScope s__law_due) .none kV28 dc28 pm28 an28 cd28 ct28), sl28⟩) (c28 : PySem.W.codeIn K cd28 "_law_due" = true) (k28 : PySem.W.keepIn K (.ref f28) = true)
    (a29 : PySem.W.nsIn K mainGlobals "law" = some (some (.ref f29))) (l29 : K.lookup f29 = some ⟨oc29, od29, .func (PySem.W.fnOf "law" "law" (defArgs s_law) (defBody s_law) (defScope s_law) .none kV29 dc29 pm29 an29 cd29 ct29), sl29⟩) (c29 : PySem.W.codeIn K cd29 "law" = true) (k29 : PySem.W.keepIn K (.ref f29) = true)
    (a30 : PySem.W.findIn K (.ref C0) "__init__" = some (some (.ref f30))) (i30 : PySem.W.isFn K (.ref f30) = true) (l30 : K.lookup f30 = some ⟨oc30, od30, .func (PySem.W.fnOf "__init__" "Counter.__init__" (defArgs s_Counter____init__) (defBody s_Counter____init__) (defScope s_Counter____init__) .none kV30 dc30 pm30 an30 cd30 ct30), sl30⟩) (c30 : PySem.W.codeIn K cd30 "Counter.__init__" = true) (k30 : PySem.W.keepIn K (.ref f30) = true)
    (z0 : PySem.W.nsIn K mainGlobals "ValueError" = some none)
    (z1 : PySem.W.nsIn K mainGlobals "bool" = some none)
    (z2 : PySem.W.nsIn K mainGlobals "divmod" = some none)
    (z3 : PySem.W.nsIn K mainGlobals "e" = some none)
    (z4 : PySem.W.nsIn K mainGlobals "int" = some none)
    (z5 : PySem.W.nsIn K mainGlobals "isinstance" = some none)
    (z6 : PySem.W.nsIn K mainGlobals "len" = some none)
    (z7 : PySem.W.nsIn K mainGlobals "list" = some none)
    (z8 : PySem.W.nsIn K mainGlobals "max" = some none)
    (z9 : PySem.W.nsIn K mainGlobals "min" = some none)
    (z10 : PySem.W.nsIn K mainGlobals "range" = some none)
    (z11 : PySem.W.nsIn K mainGlobals "sorted" = some none)
    (z12 : PySem.W.nsIn K mainGlobals "tuple" = some none)
    (z13 : PySem.W.nsIn K mainGlobals "zip" = some none)
    {tc0 : Tok} (cst0 : PySem.W.nsIn K mainGlobals "MOST_LAID" = some (some (.int (200) tc0)))
    {tc1 : Tok} (cst1 : PySem.W.nsIn K mainGlobals "DEEPEST" = some (some (.int (3) tc1)))
    {tc2 : Tok} (cst2 : PySem.W.nsIn K mainGlobals "OUT" = some (some (.int (-1) tc2)))
    : AllD K mg := by
  exact ⟨Df.of l1 c1 k1 (PySem.W.mg_of X G a1) (fun _ _ _ _ _ _ us hl => match us, hl with | [_], _ => rfl), Df.of l2 c2 k2 (PySem.W.mg_of X G a2) (fun _ _ _ _ _ _ us hl => match us, hl with | [_], _ => rfl), Df.of l3 c3 k3 (PySem.W.mg_of X G a3) (fun _ _ _ _ _ _ us hl => match us, hl with | [_, _, _], _ => rfl), Df.of l4 c4 k4 (PySem.W.mg_of X G a4) (fun _ _ _ _ _ _ us hl => match us, hl with | [_, _, _], _ => rfl), Df.of l5 c5 k5 (PySem.W.mg_of X G a5) (fun _ _ _ _ _ _ us hl => match us, hl with | [_, _], _ => rfl), Dfd.of (n := 1) l6 c6 k6 (PySem.W.mg_of X G a6) dl6 rfl (.cons ⟨_, rfl⟩ .nil) rfl (fun us hl => match us, hl with | [_], _ => ⟨_, rfl, rfl⟩), Df.of l7 c7 k7 (PySem.W.mg_of X G a7) (fun _ _ _ _ _ _ us hl => match us, hl with | [_, _], _ => rfl), Df.of l8 c8 k8 (PySem.W.mg_of X G a8) (fun _ _ _ _ _ _ us hl => match us, hl with | [_, _], _ => rfl), Df.of l9 c9 k9 (PySem.W.mg_of X G a9) (fun _ _ _ _ _ _ us hl => match us, hl with | [_, _], _ => rfl), Df.of l10 c10 k10 (PySem.W.mg_of X G a10) (fun _ _ _ _ _ _ us hl => match us, hl with | [_, _], _ => rfl), Df.of l11 c11 k11 (PySem.W.mg_of X G a11) (fun _ _ _ _ _ _ us hl => match us, hl with | [_, _], _ => rfl), Df.of l12 c12 k12 (PySem.W.mg_of X G a12) (fun _ _ _ _ _ _ us hl => match us, hl with | [_, _, _], _ => rfl), Df.of l13 c13 k13 (PySem.W.mg_of X G a13) (fun _ _ _ _ _ _ us hl => match us, hl with | [_, _, _, _], _ => rfl), Df.of l14 c14 k14 (PySem.W.mg_of X G a14) (fun _ _ _ _ _ _ us hl => match us, hl with | [_, _], _ => rfl), Df.of l15 c15 k15 (PySem.W.mg_of X G a15) (fun _ _ _ _ _ _ us hl => match us, hl with | [_], _ => rfl), Df.of l16 c16 k16 (PySem.W.mg_of X G a16) (fun _ _ _ _ _ _ us hl => match us, hl with | [_], _ => rfl), Df.of l17 c17 k17 (PySem.W.mg_of X G a17) (fun _ _ _ _ _ _ us hl => match us, hl with | [_], _ => rfl), Df.of l18 c18 k18 (PySem.W.mg_of X G a18) (fun _ _ _ _ _ _ us hl => match us, hl with | [_], _ => rfl), Df.of l19 c19 k19 (PySem.W.mg_of X G a19) (fun _ _ _ _ _ _ us hl => match us, hl with | [_, _], _ => rfl), Df.of l20 c20 k20 (PySem.W.mg_of X G a20) (fun _ _ _ _ _ _ us hl => match us, hl with | [_, _], _ => rfl), Df.of l21 c21 k21 (PySem.W.mg_of X G a21) (fun _ _ _ _ _ _ us hl => match us, hl with | [_, _], _ => rfl), Df.of l22 c22 k22 (PySem.W.mg_of X G a22) (fun _ _ _ _ _ _ us hl => match us, hl with | [_, _, _], _ => rfl), Df.of l23 c23 k23 (PySem.W.mg_of X G a23) (fun _ _ _ _ _ _ us hl => match us, hl with | [_], _ => rfl), Df.of l24 c24 k24 (PySem.W.mg_of X G a24) (fun _ _ _ _ _ _ us hl => match us, hl with | [_, _], _ => rfl), Df.of l25 c25 k25 (PySem.W.mg_of X G a25) (fun _ _ _ _ _ _ us hl => match us, hl with | [_, _], _ => rfl), Df.of l26 c26 k26 (PySem.W.mg_of X G a26) (fun _ _ _ _ _ _ us hl => match us, hl with | [_, _], _ => rfl), Df.of l27 c27 k27 (PySem.W.mg_of X G a27) (fun _ _ _ _ _ _ us hl => match us, hl with | [_, _], _ => rfl), Df.of l28 c28 k28 (PySem.W.mg_of X G a28) (fun _ _ _ _ _ _ us hl => match us, hl with | [_, _], _ => rfl), Df.of l29 c29 k29 (PySem.W.mg_of X G a29) (fun _ _ _ _ _ _ us hl => match us, hl with | [_], _ => rfl), DfI.of (PySem.W.mg_of X G aC0) a30 i30 l30 c30 k30 mk0 kc0 (fun _ _ _ _ _ _ us hl => match us, hl with | [_, _], _ => rfl), Dfd.ofAll (n := 2) l6 c6 k6 (PySem.W.mg_of X G a6) dl6 rfl rfl (fun us hl => match us, hl with | [_, _], _ => ⟨_, rfl, rfl⟩), ⟨PySem.W.mg_none_of X G z0, PySem.W.mg_none_of X G z1, PySem.W.mg_none_of X G z2, PySem.W.mg_none_of X G z3, PySem.W.mg_none_of X G z4, PySem.W.mg_none_of X G z5, PySem.W.mg_none_of X G z6, PySem.W.mg_none_of X G z7, PySem.W.mg_none_of X G z8, PySem.W.mg_none_of X G z9, PySem.W.mg_none_of X G z10, PySem.W.mg_none_of X G z11, PySem.W.mg_none_of X G z12, PySem.W.mg_none_of X G z13, ⟨_, PySem.W.mg_of X G cst0⟩, ⟨_, PySem.W.mg_of X G cst1⟩, ⟨_, PySem.W.mg_of X G cst2⟩, ExcF.of (PySem.W.mg_of X G aE0) xE0 kE0 bE0 tE0 iE0, ExcF.of (PySem.W.mg_of X G aE1) xE1 kE1 bE1 tE1 iE1, ExcF.of (PySem.W.mg_of X G aE2) xE2 kE2 bE2 tE2 iE2, ExcF.of (PySem.W.mg_of X G aE3) xE3 kE3 bE3 tE3 iE3, SubF.of (PySem.W.mg_of X G aE1) (PySem.W.mg_of X G aE0) sE1_0, SubF.of (PySem.W.mg_of X G aE1) (PySem.W.mg_of X G aE1) sE1_1, SubF.of (PySem.W.mg_of X G aE1) (PySem.W.mg_of X G aE2) sE1_2, SubF.of (PySem.W.mg_of X G aE1) (PySem.W.mg_of X G aE3) sE1_3, SubF.of (PySem.W.mg_of X G aE2) (PySem.W.mg_of X G aE0) sE2_0, SubF.of (PySem.W.mg_of X G aE2) (PySem.W.mg_of X G aE1) sE2_1, SubF.of (PySem.W.mg_of X G aE2) (PySem.W.mg_of X G aE2) sE2_2, SubF.of (PySem.W.mg_of X G aE2) (PySem.W.mg_of X G aE3) sE2_3, SubF.of (PySem.W.mg_of X G aE3) (PySem.W.mg_of X G aE0) sE3_0, SubF.of (PySem.W.mg_of X G aE3) (PySem.W.mg_of X G aE1) sE3_1, SubF.of (PySem.W.mg_of X G aE3) (PySem.W.mg_of X G aE2) sE3_2, SubF.of (PySem.W.mg_of X G aE3) (PySem.W.mg_of X G aE3) sE3_3, ExcI.of (PySem.W.mg_of X G aE1) ⟨ga1, gt1, bE1, hi1, fc1, spG, tkG, mo1⟩ vE1, ExcI.of (PySem.W.mg_of X G aE2) ⟨ga2, gt2, bE2, hi2, fc2, spG, tkG, mo2⟩ vE2, ExcI.of (PySem.W.mg_of X G aE3) ⟨ga3, gt3, bE3, hi3, fc3, spG, tkG, mo3⟩ vE3, ClsF.of (PySem.W.mg_of X G aC0) ⟨pg0, hd0, po0, sa0⟩ (by intro f hf; simp only [List.mem_cons, List.not_mem_nil, or_false] at hf; rcases hf with rfl | rfl | rfl | rfl | rfl <;> assumption)⟩⟩

theorem law_fd {P : Program} {w : World} {K : PySem.W.Frag} {mg : Str → Option Value} {fa : Addr} (A : AllD K mg) (hfa : mg "law" = some (.ref fa)) :
    ∃ fd : FuncData, (∀ (s : Shared) (v : Value), BindsTo s fd ⟨[v], []⟩ [("_law_script", v)]) ∧ ∀ base : Heap, K.In base → base.Ns mainGlobals mg → FnG P w K mg base CX0 17 fa fd ["_law_script"] (spLaw K) := by
  obtain ⟨f, fd, F, m, b⟩ := A.d_law.ex
  have e := hfa.symm.trans m
  cases e
  refine ⟨fd, fun s v => by obtain ⟨oc, od, kV, doc, pm, an, cdv, ct, osl, rfl, lk, hcd⟩ := F.ex; exact .of_eq rfl, fun base _ _ => ?_⟩
  have B := A.bl
  have D_is_whole : Dn P w K mg base 1 "is_whole" ["thing"] (spWhT K) := k_is_whole B A.d_is_whole 
  have D_piece_of : Dn P w K mg base 1 "piece_of" ["k", "address"] spPiece := k_piece_of B A.d_piece_of 
  have D_folded_pieces : Dn P w K mg base 2 "folded_pieces" ["k", "address"] spFolded8 := k_folded_pieces B A.d_folded_pieces D_piece_of
  have D_side_at : Dn P w K mg base 3 "side_at" ["k", "address"] spSideAt := k_side_at B A.d_side_at D_folded_pieces
  have D_is_within : Dn P w K mg base 2 "is_within" ["thing", "least", "most"] (spInT K) := k_is_within B A.d_is_within D_is_whole
  have D_want_net : DxD P w K mg base 3 "want_net" ["k", "deepest"] [.int 4] (spNetT K (cAt mg "NoNet")) := k_want_net B A.d_want_net D_is_within
  have D_want_net_all : DxD P w K mg base 3 "want_net" ["k", "deepest"] [] (spNetT K (cAt mg "NoNet")) := k_want_net_all B A.e_want_net D_is_within
  have D_want_within : Dx P w K mg base 3 "want_within" ["thing", "least", "most"] (spWithinT K (cAt mg "NoNumber")) := k_want_within B A.d_want_within D_is_within
  have D_want_from : Dx P w K mg base 2 "want_from" ["thing", "least"] (spFromT K (cAt mg "NoNumber")) := k_want_from B A.d_want_from D_is_whole
  have D_place_of : Dx P w K mg base 4 "place_of" ["k", "address"] (spPlaceT K (cAt mg "NoNet") (cAt mg "NoNumber")) := k_place_of B A.d_place_of D_want_net D_want_net_all D_want_from
  have D_side_of : Dx P w K mg base 4 "side_of" ["k", "address"] (spPlaceT K (cAt mg "NoNet") (cAt mg "NoNumber")) := k_side_of B A.d_side_of D_want_net D_want_net_all D_want_from D_side_at
  have D_address_at : Dx P w K mg base 4 "address_at" ["k", "side", "place"] (spAddrT K (cAt mg "NoNet") (cAt mg "NoNumber") (cAt mg "NoSide")) := k_address_at B A.d_address_at D_want_net D_want_net_all D_want_from D_is_within D_side_at
  have D_lying : Dx P w K mg base 4 "lying" ["k", "begin", "step", "many"] (spLyT K (cAt mg "NoNet") (cAt mg "NoNumber")) := k_lying B A.d_lying D_want_net D_want_net_all D_want_from D_want_within D_side_at
  have D_merged : Dn P w K mg base 5 "merged" ["one", "other"] ((spMerged K) 4) := k_merged B A.d_merged 
  have D_counted_lines : Dn P w K mg base 10 "counted_lines" ["lines"] ((spCl K) 4) := k_counted_lines B A.d_counted_lines D_merged
  have D_counting_net : Dx P w K mg base 12 "counting_net" ["k"] (spNetC K (cAt mg "NoNet")) := k_counting_net B A.d_counting_net D_want_net D_want_net_all D_counted_lines
  have D_toggles : Dx P w K mg base 13 "toggles" ["k"] (spTogT K (cAt mg "NoNet")) := k_toggles B A.d_toggles D_counting_net
  have D_counted : Dx P w K mg base 13 "counted" ["k"] (spTogT K (cAt mg "NoNet")) := k_counted B A.d_counted D_counting_net
  have D_Counter____init__ : DxI P w K mg base (cAt mg "Counter") 13 ["self", "k"] (spCtIT K (cAt mg "Counter") (cAt mg "NoNet")) := k_Counter____init__ B A.d_Counter____init__ D_counting_net
  have D__law_cell : Dn P w K mg base 1 "_law_cell" ["_law_script", "_law_k"] (spCell K) := k__law_cell B A.d__law_cell 
  have D__law_pot : Dn P w K mg base 2 "_law_pot" ["_law_script", "_law_k"] (spPot K) := k__law_pot B A.d__law_pot D__law_cell
  have D__law_draw : Dn P w K mg base 1 "_law_draw" ["_law_pot_here", "_law_many"] spTake := k__law_draw B A.d__law_draw 
  have D__law_odd : Dn P w K mg base 2 "_law_odd" ["_law_pot_here", "_law_least", "_law_most"] (spOdd K) := k__law_odd B A.d__law_odd D__law_draw
  have D__law_kinds : Dn P w K mg base 1 "_law_kinds" ["_law_which"] (spKinds K) := k__law_kinds B A.d__law_kinds 
  have D__law_bounds : Dn P w K mg base 1 "_law_bounds" ["_law_kind", "_law_k"] (spBnd K) := k__law_bounds B A.d__law_bounds 
  have D__law_good : Dn P w K mg base 2 "_law_good" ["_law_pot_here", "_law_bounds_here"] (spGood K) := k__law_good B A.d__law_good D__law_draw
  have D__law_asked : Dx P w K mg base 15 "_law_asked" ["_law_which", "_law_things"] (spAsked K mg) := k__law_asked B A.d__law_asked D_place_of D_side_of D_address_at D_lying D_toggles D_counted D_Counter____init__
  have D__law_met : Dn P w K mg base 16 "_law_met" ["_law_which", "_law_things"] (spMet K) := k__law_met B A.d__law_met D__law_asked
  have D__law_due : Dn P w K mg base 2 "_law_due" ["_law_kinds_here", "_law_odd_here"] (spDue K) := k__law_due B A.d__law_due 
  exact k_law B F D__law_pot D__law_draw D__law_kinds D__law_bounds D__law_good D__law_odd D__law_met D__law_due

theorem walk {l : PySem.W.OpenLaw} {q : Program} {loose : List Str} {XP : (Str → Option Value) → Heap → Prop} {YP : World → Heap → Prop} {d : DefRec} {K : Params → PySem.W.Frag} (hn : l.most = some 63) (hdf : d.params.defaults = [])
    (hY : ∀ (w : World) (h : Heap), YP w h → (K w.params).In h) (hname : d.name = "law") (F : ∀ (w : World) (mg : Str → Option Value) (h : Heap), (K w.params).In h → h.Ns mainGlobals mg → AllD (K w.params) mg) :
    PySem.W.WalkO q loose XP YP l.row.toRowW d [] (fun f vs => PySem.call f vs) :=
  walk_G (n := 63) (k := 17) (x := "_law_script") (sp := spLaw) hn (by decide) hdf ⟨rfl, by decide, by decide⟩ hY
    (fun w mg fa h KX G hfa => law_fd (F w mg h KX G) (by rw [hname] at hfa; exact hfa)) fun _ _ a ns hl hS => ⟨a, ns, rfl, hS, hl, fun _ => rfl⟩
end Toy
open PySem PySem.W PyProof.Rows
set_option maxRecDepth 100000 in
set_option maxHeartbeats 0 in
theorem PySem.Challenge.cw_joinedasks_k83_spread_and_toggles_refuse_holds : PySem.Challenge.rw_joinedasks_k83_spread_and_toggles_refuse.Holds := by
  w_on; o_law; k_head; (case hw => w_witness2)
  k_fill
  refine Toy.walk (l := PySem.Challenge.rw_joinedasks_k83_spread_and_toggles_refuse) rfl rfl (fun w h Y => PySem.W.kIn_of Y) rfl ?F
  case F =>
    intro w mg h KX G
    refine' Toy.all_mk (w := w) KX G ?aC0 ?pg0 ?hd0 ?po0 ?sa0 ?mk0 ?kc0 ?nf0_0 ?nf0_1 ?nf0_2 ?nf0_3 ?nf0_4 ?aE0 ?xE0 ?kE0 ?bE0 ?tE0 ?iE0 ?aE1 ?xE1 ?kE1 ?bE1 ?tE1 ?iE1 ?aE2 ?xE2 ?kE2 ?bE2 ?tE2 ?iE2 ?aE3 ?xE3 ?kE3 ?bE3 ?tE3 ?iE3 ?sE1_0 ?sE1_1 ?sE1_2 ?sE1_3 ?sE2_0 ?sE2_1 ?sE2_2 ?sE2_3 ?sE3_0 ?sE3_1 ?sE3_2 ?sE3_3 ?spG ?tkG ?ga1 ?gt1 ?hi1 ?fc1 ?mo1 ?vE1 ?ga2 ?gt2 ?hi2 ?fc2 ?mo2 ?vE2 ?ga3 ?gt3 ?hi3 ?fc3 ?mo3 ?vE3 ?a1 ?l1 ?c1 ?k1 ?a2 ?l2 ?c2 ?k2 ?a3 ?l3 ?c3 ?k3 ?a4 ?l4 ?c4 ?k4 ?a5 ?l5 ?c5 ?k5 ?a6 ?l6 ?c6 ?k6 ?dl6 ?a7 ?l7 ?c7 ?k7 ?a8 ?l8 ?c8 ?k8 ?a9 ?l9 ?c9 ?k9 ?a10 ?l10 ?c10 ?k10 ?a11 ?l11 ?c11 ?k11 ?a12 ?l12 ?c12 ?k12 ?a13 ?l13 ?c13 ?k13 ?a14 ?l14 ?c14 ?k14 ?a15 ?l15 ?c15 ?k15 ?a16 ?l16 ?c16 ?k16 ?a17 ?l17 ?c17 ?k17 ?a18 ?l18 ?c18 ?k18 ?a19 ?l19 ?c19 ?k19 ?a20 ?l20 ?c20 ?k20 ?a21 ?l21 ?c21 ?k21 ?a22 ?l22 ?c22 ?k22 ?a23 ?l23 ?c23 ?k23 ?a24 ?l24 ?c24 ?k24 ?a25 ?l25 ?c25 ?k25 ?a26 ?l26 ?c26 ?k26 ?a27 ?l27 ?c27 ?k27 ?a28 ?l28 ?c28 ?k28 ?a29 ?l29 ?c29 ?k29 ?a30 ?i30 ?l30 ?c30 ?k30 ?z0 ?z1 ?z2 ?z3 ?z4 ?z5 ?z6 ?z7 ?z8 ?z9 ?z10 ?z11 ?z12 ?z13 ?cst0 ?cst1 ?cst2
    (case aC0 => k_is)
    (case pg0 => k_is)
    (case hd0 => k_is)
    (case po0 => k_is)
    (case sa0 => k_is)
    (case mk0 => k_is)
    (case kc0 => k_is)
    (case nf0_0 => k_is)
    (case nf0_1 => k_is)
    (case nf0_2 => k_is)
    (case nf0_3 => k_is)
    (case nf0_4 => k_is)
    (case aE0 => k_is)
    (case xE0 => k_exc)
    (case kE0 => k_is)
    (case bE0 => k_is)
    (case tE0 => k_is)
    (case iE0 => k_is)
    (case aE1 => k_is)
    (case xE1 => k_exc)
    (case kE1 => k_is)
    (case bE1 => k_is)
    (case tE1 => k_is)
    (case iE1 => k_is)
    (case aE2 => k_is)
    (case xE2 => k_exc)
    (case kE2 => k_is)
    (case bE2 => k_is)
    (case tE2 => k_is)
    (case iE2 => k_is)
    (case aE3 => k_is)
    (case xE3 => k_exc)
    (case kE3 => k_is)
    (case bE3 => k_is)
    (case tE3 => k_is)
    (case iE3 => k_is)
    (case sE1_0 => first | rfl | k_is)
    (case sE1_1 => first | rfl | k_is)
    (case sE1_2 => first | rfl | k_is)
    (case sE1_3 => first | rfl | k_is)
    (case sE2_0 => first | rfl | k_is)
    (case sE2_1 => first | rfl | k_is)
    (case sE2_2 => first | rfl | k_is)
    (case sE2_3 => first | rfl | k_is)
    (case sE3_0 => first | rfl | k_is)
    (case sE3_1 => first | rfl | k_is)
    (case sE3_2 => first | rfl | k_is)
    (case sE3_3 => first | rfl | k_is)
    (case spG => k_is)
    (case tkG => k_is)
    (case ga1 => k_is)
    (case gt1 => k_is)
    (case hi1 => k_is)
    (case fc1 => k_is)
    (case mo1 => k_is)
    (case vE1 => k_is)
    (case ga2 => k_is)
    (case gt2 => k_is)
    (case hi2 => k_is)
    (case fc2 => k_is)
    (case mo2 => k_is)
    (case vE2 => k_is)
    (case ga3 => k_is)
    (case gt3 => k_is)
    (case hi3 => k_is)
    (case fc3 => k_is)
    (case mo3 => k_is)
    (case vE3 => k_is)
    (case a1 => k_is)
    (case l1 => k_is)
    (case c1 => k_is)
    (case k1 => k_is)
    (case a2 => k_is)
    (case l2 => k_is)
    (case c2 => k_is)
    (case k2 => k_is)
    (case a3 => k_is)
    (case l3 => k_is)
    (case c3 => k_is)
    (case k3 => k_is)
    (case a4 => k_is)
    (case l4 => k_is)
    (case c4 => k_is)
    (case k4 => k_is)
    (case a5 => k_is)
    (case l5 => k_is)
    (case c5 => k_is)
    (case k5 => k_is)
    (case a6 => k_is)
    (case l6 => k_is)
    (case c6 => k_is)
    (case k6 => k_is)
    (case dl6 => k_is)
    (case a7 => k_is)
    (case l7 => k_is)
    (case c7 => k_is)
    (case k7 => k_is)
    (case a8 => k_is)
    (case l8 => k_is)
    (case c8 => k_is)
    (case k8 => k_is)
    (case a9 => k_is)
    (case l9 => k_is)
    (case c9 => k_is)
    (case k9 => k_is)
    (case a10 => k_is)
    (case l10 => k_is)
    (case c10 => k_is)
    (case k10 => k_is)
    (case a11 => k_is)
    (case l11 => k_is)
    (case c11 => k_is)
    (case k11 => k_is)
    (case a12 => k_is)
    (case l12 => k_is)
    (case c12 => k_is)
    (case k12 => k_is)
    (case a13 => k_is)
    (case l13 => k_is)
    (case c13 => k_is)
    (case k13 => k_is)
    (case a14 => k_is)
    (case l14 => k_is)
    (case c14 => k_is)
    (case k14 => k_is)
    (case a15 => k_is)
    (case l15 => k_is)
    (case c15 => k_is)
    (case k15 => k_is)
    (case a16 => k_is)
    (case l16 => k_is)
    (case c16 => k_is)
    (case k16 => k_is)
    (case a17 => k_is)
    (case l17 => k_is)
    (case c17 => k_is)
    (case k17 => k_is)
    (case a18 => k_is)
    (case l18 => k_is)
    (case c18 => k_is)
    (case k18 => k_is)
    (case a19 => k_is)
    (case l19 => k_is)
    (case c19 => k_is)
    (case k19 => k_is)
    (case a20 => k_is)
    (case l20 => k_is)
    (case c20 => k_is)
    (case k20 => k_is)
    (case a21 => k_is)
    (case l21 => k_is)
    (case c21 => k_is)
    (case k21 => k_is)
    (case a22 => k_is)
    (case l22 => k_is)
    (case c22 => k_is)
    (case k22 => k_is)
    (case a23 => k_is)
    (case l23 => k_is)
    (case c23 => k_is)
    (case k23 => k_is)
    (case a24 => k_is)
    (case l24 => k_is)
    (case c24 => k_is)
    (case k24 => k_is)
    (case a25 => k_is)
    (case l25 => k_is)
    (case c25 => k_is)
    (case k25 => k_is)
    (case a26 => k_is)
    (case l26 => k_is)
    (case c26 => k_is)
    (case k26 => k_is)
    (case a27 => k_is)
    (case l27 => k_is)
    (case c27 => k_is)
    (case k27 => k_is)
    (case a28 => k_is)
    (case l28 => k_is)
    (case c28 => k_is)
    (case k28 => k_is)
    (case a29 => k_is)
    (case l29 => k_is)
    (case c29 => k_is)
    (case k29 => k_is)
    (case a30 => k_is)
    (case i30 => k_is)
    (case l30 => k_is)
    (case c30 => k_is)
    (case k30 => k_is)
    (case z0 => k_is)
    (case z1 => k_is)
    (case z2 => k_is)
    (case z3 => k_is)
    (case z4 => k_is)
    (case z5 => k_is)
    (case z6 => k_is)
    (case z7 => k_is)
    (case z8 => k_is)
    (case z9 => k_is)
    (case z10 => k_is)
    (case z11 => k_is)
    (case z12 => k_is)
    (case z13 => k_is)
    (case cst0 => k_is)
    (case cst1 => k_is)
    (case cst2 => k_is)
#print axioms PySem.Challenge.cw_joinedasks_k83_spread_and_toggles_refuse_holds

