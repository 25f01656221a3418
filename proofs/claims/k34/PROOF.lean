import PyProof.Rows.All
import Wide.All
import OpenK.AllK
import Wide.FinOn
import HandS.ForMost
import HandS.Defaults
import HandS.WideBits
import HandS.Conv
import HandS.IsInst
import HandS.RaiseMore
import HandS.SortInts
import HandS.Style
import HandS.Codes
import HandS.ForExc
import HandS.TryMany
import HandS.Flow
import KE.KEqSeq
import PyProof.ReprRoads
import KE.GoesMore
import KE.KDictZip
import PyProof.ListNew
import HandS.SetFor
import PyProof.StrLawsRepr
import HandS.TupAny
import HandS.TryOnly
import HandS.ExcIs
import HandS.Zip
import HandS.Strs
import HandS.TupMul
import PySem.Challenge.RW_joinedasks_k34_settings_and_led
set_option Elab.async false
set_option linter.all false
set_option maxRecDepth 100000
set_option maxHeartbeats 4000000
set_option exponentiation.threshold 100000
namespace Toy
open PySem PySem.Spec PyProof.Rows L2
/-- a def of the text stands behind its name -/
structure Df (K : PySem.W.Frag) (mg : Str → Option Value) (x : Str) (st : Stmt) (ps : List Str) : Prop where
  ex : ∃ f fd, Fun K x x st f fd ∧ mg x = some (.ref f) ∧ Binds K fd ps []
theorem Df.of {K : PySem.W.Frag} {mg : Str → Option Value} {x : Str} {st : Stmt} {ps : List Str} {f : Addr} {oc : Value} {od an : Option Addr} {osl : Array (Option Value)} {kV doc pm cdv ct : Value}
    (l : K.lookup f = some ⟨oc, od, .func (PySem.W.fnOf x x (defArgs st) (defBody st) (defScope st) .none kV doc pm an cdv ct), osl⟩) (c : PySem.W.codeIn K cdv x = true) (k : PySem.W.keepIn K (.ref f) = true) (m : mg x = some (.ref f))
    (h : ∀ (kV doc pm : Value) (an : Option Addr) (cdv ct : Value) (us : List Value), us.length = ps.length → bindArgs (PySem.W.fnOf x x (defArgs st) (defBody st) (defScope st) .none kV doc pm an cdv ct) ⟨us, []⟩ = pure (ps.zip us)) : Df K mg x st ps :=
  ⟨_, _, fun_mk l c k, m, (fun_mk l c k).binds h⟩
end Toy
namespace Toy
open PySem PySem.Spec PyProof.Rows L2
/-- room for calls, and nothing is being shown (repr, str of containers ask that) -/
structure RoomG (k : Nat) (A : Around) : Prop where
  room : Room k A
  idle : A.guards = some []
theorem RoomG.less {j k : Nat} {A : Around} (r : RoomG k A) (h : j ≤ k) : RoomG j A := ⟨r.room.mono h, r.idle⟩
theorem RoomG.units {k : Nat} {A : Around} (r : RoomG k A) : A.units + 64 < cLine := r.room.units
theorem RoomG.in_ {k : Nat} {A : Around} (r : RoomG (k + 1) A) (env : Env) : RoomG k (A.deeper env) := ⟨r.room.deeper env, r.idle⟩
/-- a def's promise under such a call -/
structure FnG (P : Program) (w : World) (K : PySem.W.Frag) (mg : Str → Option Value) (base : Heap) (CX : CXT) (k : Nat) (f : Addr) (fd : FuncData) (ps : List Str) (sp : Sp) : Prop where
  arity : ∀ vs H Q E, sp vs H Q E → vs.length = ps.length
  go : ∀ {A : Around} {outer : List Env} {s : Shared} {H : Hp} {args : Args} {us : List Value} {vs : List V} {Q : VK} {E : XK}, RoomG k A → Env0 P w K mg base A outer s H →
    BindsTo s fd args (ps.zip us) → Vals vs us → sp vs H Q E → codeAny (model P w) A (.call (.ref f) args) (CR CX outer P w H s Q E) s
section
variable {P : Program} {w : World} {K : PySem.W.Frag} {mg : Str → Option Value} {base : Heap} {CX : CXT}
/-- a body that ends well ends the call well -/
theorem flow_end {N : List Str} {qual : Str} {scope : Scope} {f : Addr} {cd : Value} {A : Around} {outer : List Env} {s : Shared} {H : Hp} {Q : VK} {E : XK} {fl : Flow} {s' : Shared}
    (h : SP (cxOf CX P w K mg base N qual scope f cd A outer s H E) [] { nx := fun _ H' => Q .non H', rt := Q } fl s') :
    ∃ u, (fl = .next ∧ u = Value.none ∨ fl = .ret u) ∧ CE outer P w H s Q u s' := by
  cases fl with
  | next =>
    obtain ⟨σ, H1, J, q⟩ := h
    exact ⟨_, .inl ⟨rfl, rfl⟩, .non, H1, J.os, J.bare, J.base, J.hok, rfl, q⟩
  | ret u =>
    obtain ⟨v, σ, H1, J, r, q⟩ := h
    exact ⟨u, .inr rfl, v, H1, J.os, J.bare, J.base, J.hok, r, q⟩
  | brk =>
    obtain ⟨_, _, _, q⟩ := h
    cases q
  | cont =>
    obtain ⟨_, _, _, q⟩ := h
    cases q
/-- a def of the text, whatever its defaults -/
structure FunA (K : PySem.W.Frag) (x qual : Str) (st : Stmt) (f : Addr) (fd : FuncData) : Prop where
  ex : ∃ (oc : Value) (od : Option Addr) (dV kV doc pm : Value) (an : Option Addr) (cdv ct : Value) (osl : Array (Option Value)),
    fd = PySem.W.fnOf x qual (defArgs st) (defBody st) (defScope st) dV kV doc pm an cdv ct ∧ K.lookup f = some ⟨oc, od, .func fd, osl⟩ ∧ PySem.W.codeIn K cdv qual = true
theorem toA {K : PySem.W.Frag} {x qual : Str} {st : Stmt} {f : Addr} {fd : FuncData} (F : Fun K x qual st f fd) : FunA K x qual st f fd := by
  obtain ⟨oc, od, kV, doc, pm, an, cdv, ct, osl, e, lk, hcd⟩ := F.ex
  exact ⟨⟨oc, od, .none, kV, doc, pm, an, cdv, ct, osl, e, lk, hcd⟩⟩
theorem okGA {x qual : Str} {st : Stmt} {f : Addr} {fd : FuncData} {N ps : List Str} {k : Nat} {sp : Sp} (F : FunA K x qual st f fd) (S : FnScope N ps (defScope st)) (ar : ∀ vs H Q E, sp vs H Q E → vs.length = ps.length)
    (body : ∀ (cdv : Value) (A : Around) (outer : List Env) (s : Shared) (H : Hp) (vs : List V) (Q : VK) (E : XK), RoomG k (A.deeper (envOfC qual (defScope st) s.heap.objs.size f cdv)) → sp vs H Q E →
      ∃ t, PSs (cxOf CX P w K mg base N qual (defScope st) f cdv A outer s H E) (defBody st) t ∧ t { nx := fun _ H' => Q .non H', rt := Q } (start N vs) H) : FnG P w K mg base CX (k + 1) f fd ps sp := by
  obtain ⟨oc, od, dV, kV, doc, pm, an, cdv, ct, osl, rfl, lk, hcd⟩ := F.ex
  refine ⟨ar, ?_⟩
  intro A outer s H args us vs Q E room e0 hb rv hsp
  have kin : K.In s.heap := e0.mod.kin.keeps fun b o z => (e0.bs b o z).1
  have nolim : s.heap.NoLimit := e0.mod.nolimit.keeps fun b o z => (e0.bs b o z).1
  have kinds : ∀ y ∈ ps.zip us, (defScope st).names.lookup y.1 = some .local ∨ ((defScope st).names.lookup y.1 = some .cell ∧ ((cellsFrom (s.heap.objs.size + 1) (defScope st).names []).lookup y.1).isSome = true) := by
    rintro ⟨n, v⟩ hy
    exact (S.par n (List.of_mem_zip hy).1).imp _root_.id fun q => ⟨q, PySem.W.cellsFrom_some _ _ _ (.inl q)⟩
  refine codeAny_call_function room.room.depth (kin _ _ lk) rfl S.co S.gen rfl (PySem.W.codeRec_of kin hcd) (hb _ _ _ _ (wpAny_newFunctionEnv_cells S.kind kinds fun env he s1 inC => ?_))
  subst he
  obtain ⟨t, ht, hq⟩ := body cdv A outer s H vs Q E (room.in_ _) hsp
  refine ⟨nolim.keeps inC.toInCall.keep, codeAny_func (wpAny_mono (ht.run [] s1 (start N vs) H _ (inv_start S room.room.hd e0 (ar _ _ _ _ hsp) rv inC) hq) (fun fl s' z => ?_) fun e s' z => z)⟩
  obtain ⟨u, c, q⟩ := flow_end z
  rcases c with ⟨rfl, rfl⟩ | rfl
  · exact q
  · exact q
theorem okG0A {x qual : Str} {st : Stmt} {f : Addr} {fd : FuncData} {N ps : List Str} {k : Nat} {sp : Sp} (F : FunA K x qual st f fd) (S : FnScope N ps (defScope st)) (ar : ∀ vs H Q E, sp vs H Q E → vs.length = ps.length)
    (body : ∀ (cdv : Value) (A : Around) (outer : List Env) (s : Shared) (H : Hp) (vs : List V) (Q : VK) (E : XK), RoomG k (A.deeper (envOfC qual (defScope st) s.heap.objs.size f cdv)) → sp vs H Q E →
      ∃ t, PSs (cxOf CX0 P w K mg base N qual (defScope st) f cdv A outer s H E).nox (defBody st) t ∧ t { nx := fun _ H' => Q .non H', rt := Q } (start N vs) H) : FnG P w K mg base CX0 (k + 1) f fd ps sp :=
  okGA F S ar fun cdv A outer s H vs Q E hr hsp => (body cdv A outer s H vs Q E hr hsp).imp fun _ z => ⟨z.1.nox, z.2⟩
theorem okG {x qual : Str} {st : Stmt} {f : Addr} {fd : FuncData} {N ps : List Str} {k : Nat} {sp : Sp} (F : Fun K x qual st f fd) (S : FnScope N ps (defScope st)) (ar : ∀ vs H Q E, sp vs H Q E → vs.length = ps.length)
    (body : ∀ (cdv : Value) (A : Around) (outer : List Env) (s : Shared) (H : Hp) (vs : List V) (Q : VK) (E : XK), RoomG k (A.deeper (envOfC qual (defScope st) s.heap.objs.size f cdv)) → sp vs H Q E →
      ∃ t, PSs (cxOf CX P w K mg base N qual (defScope st) f cdv A outer s H E) (defBody st) t ∧ t { nx := fun _ H' => Q .non H', rt := Q } (start N vs) H) : FnG P w K mg base CX (k + 1) f fd ps sp :=
  okGA (toA F) S ar body
theorem okG0 {x qual : Str} {st : Stmt} {f : Addr} {fd : FuncData} {N ps : List Str} {k : Nat} {sp : Sp} (F : Fun K x qual st f fd) (S : FnScope N ps (defScope st)) (ar : ∀ vs H Q E, sp vs H Q E → vs.length = ps.length)
    (body : ∀ (cdv : Value) (A : Around) (outer : List Env) (s : Shared) (H : Hp) (vs : List V) (Q : VK) (E : XK), RoomG k (A.deeper (envOfC qual (defScope st) s.heap.objs.size f cdv)) → sp vs H Q E →
      ∃ t, PSs (cxOf CX0 P w K mg base N qual (defScope st) f cdv A outer s H E).nox (defBody st) t ∧ t { nx := fun _ H' => Q .non H', rt := Q } (start N vs) H) : FnG P w K mg base CX0 (k + 1) f fd ps sp :=
  okG0A (toA F) S ar body
end
section
variable {X : Cx} {CX : CXT} {k : Nat} {f : Addr} {fd : FuncData} {ps : List Str} {sp : Sp}
theorem run_G {pins : List (Addr × Obj)} {σ : L2.St} {H : Hp} {s : Shared} {Q : VK} {E : XK} {us : List Value} {vs : List V} (F : FnG X.prog X.w X.K X.mg X.base CX k f fd ps sp) (hr : RoomG k X.A) (hb : Binds X.K fd ps [])
    (out : ∀ e s', CX X.stack H s E e s' → X.xe e s') (I : Inv X pins σ H s) (r : Vals vs us) (h : sp vs H Q E) : wpAny (model X.prog X.w) X.A (call (.ref f) us) (EP X pins σ Q) X.xe s := by
  have n := (r.length).symm.trans (F.arity _ _ _ _ h)
  have b := hb s us I.kIn (by rw [List.append_nil, n])
  rw [List.append_nil] at b
  refine wpAny_call (codeAny_mono (F.go hr I.env0 b r h) ?_)
  rintro (e | fl) s' q
  · exact out e s' q
  · match fl, q with
    | .ret u, q => exact I.after q
/-- a def and its promise, by its name -/
structure Dn (P : Program) (w : World) (K : PySem.W.Frag) (mg : Str → Option Value) (base : Heap) (k : Nat) (x : Str) (ps : List Str) (sp : Sp) : Prop where
  ex : ∃ f fd, FnG P w K mg base CX0 k f fd ps sp ∧ PySem.W.keepIn K (.ref f) = true ∧ mg x = some (.ref f) ∧ Binds K fd ps []
/-- .. that may raise -/
structure Dx (P : Program) (w : World) (K : PySem.W.Frag) (mg : Str → Option Value) (base : Heap) (k : Nat) (x : Str) (ps : List Str) (sp : Sp) : Prop where
  ex : ∃ f fd, FnG P w K mg base (L2.CX P w) k f fd ps sp ∧ PySem.W.keepIn K (.ref f) = true ∧ mg x = some (.ref f) ∧ Binds K fd ps []
theorem Df.ok {P : Program} {w : World} {K : PySem.W.Frag} {mg : Str → Option Value} {base : Heap} {x : Str} {st : Stmt} (D : Df K mg x st ps)
    (h : ∀ f fd, Fun K x x st f fd → FnG P w K mg base CX0 k f fd ps sp) : Dn P w K mg base k x ps sp := by
  obtain ⟨f, fd, F, m, b⟩ := D.ex
  exact ⟨f, fd, h f fd F, F.kp, m, b⟩
theorem Df.okX {P : Program} {w : World} {K : PySem.W.Frag} {mg : Str → Option Value} {base : Heap} {x : Str} {st : Stmt} (D : Df K mg x st ps)
    (h : ∀ f fd, Fun K x x st f fd → FnG P w K mg base (L2.CX P w) k f fd ps sp) : Dx P w K mg base k x ps sp := by
  obtain ⟨f, fd, F, m, b⟩ := D.ex
  exact ⟨f, fd, h f fd F, F.kp, m, b⟩
variable {x : Str} {p pos : Pos} {e : Expr} {es : List Expr} {t : TA}
theorem pe_cD (D : Dn X.prog X.w X.K X.mg X.base k x ps sp) (hr : RoomG k X.A) (hg : Gl X x) (ha : PA X (e :: es) t) (hdb : (x == ("__debug__" : Str)) = false := by decide)
    (he : starEach (e :: es) X.env = (false, eval e X.env) :: starEach es X.env := by rfl) (hpl : (backTo pos (starEach es X.env)).any (·.1) = false := by rfl) : PE X (.Call (.Name x p) (e :: es) [] pos) (tCall sp [] E0 t) := by
  obtain ⟨f, fd, F, hk, hm, hb⟩ := D.ex
  refine ⟨fun pins s σ H Q I h => wpAny_Call_Name_kw (ld_glob I hg hm (PySem.W.callWith_K (h₀ := X.base) I.ok.mod.kin hk (thn (ha.run pos pins s σ H _ I h) fun us s1 ⟨vs, H1, I1, r, q⟩ => ⟨I1.kIn, ?_⟩) he hpl) hdb)⟩
  have q' : sp vs H1 Q E0 := by
    have z : sp (vs ++ []) H1 Q E0 := q
    rw [List.append_nil] at z
    exact z
  exact run_G F hr hb (fun _ _ z => z.elim) I1 r q'
theorem pe_cD0 (D : Dn X.prog X.w X.K X.mg X.base k x ps sp) (hr : RoomG k X.A) (hg : Gl X x) (hdb : (x == ("__debug__" : Str)) = false := by decide) : PE X (.Call (.Name x p) [] [] pos) (tCall sp [] E0 tNil) := by
  obtain ⟨f, fd, F, hk, hm, hb⟩ := D.ex
  refine ⟨fun pins s σ H Q I h => wpAny_Call_Name_kw (ld_glob I hg hm (PySem.W.callWith_K0 I.kIn hk (run_G (us := []) F hr hb (fun _ _ z => z.elim) I .nil h)) hdb)⟩
/-- a def with defaults: dvs fill up -/
structure Dfd (K : PySem.W.Frag) (mg : Str → Option Value) (x : Str) (st : Stmt) (ps : List Str) (dvs : List V) : Prop where
  ex : ∃ (f : Addr) (fd : FuncData) (ds : List Value), FunA K x x st f fd ∧ PySem.W.keepIn K (.ref f) = true ∧ mg x = some (.ref f) ∧ Binds K fd ps ds ∧ Vals dvs ds
theorem Dfd.of {K : PySem.W.Frag} {mg : Str → Option Value} {x : Str} {st : Stmt} {ps : List Str} {dvs : List V} {f T : Addr} {oc : Value} {od an : Option Addr} {osl : Array (Option Value)} {kV doc pm cdv ct : Value} {o : Obj} {its : List Value} {n m : Nat}
    (l : K.lookup f = some ⟨oc, od, .func (PySem.W.fnOf x x (defArgs st) (defBody st) (defScope st) (.ref T) kV doc pm an cdv ct), osl⟩) (c : PySem.W.codeIn K cdv x = true) (k : PySem.W.keepIn K (.ref f) = true) (mx : mg x = some (.ref f))
    (lT : K.lookup T = some o) (oT : o.data = .seq its.toArray m) (rT : Vals dvs its) (hn : n + dvs.length = ps.length)
    (h : ∀ (us : List Value), us.length = n → ∃ kk, bindArgs (PySem.W.fnOf x x (defArgs st) (defBody st) (defScope st) (.ref T) kV doc pm an cdv ct) ⟨us, []⟩ = seqItems? (.ref T) >>= kk ∧ kk (some its.toArray) = pure (ps.zip (us ++ its))) : Dfd K mg x st ps dvs := by
  refine ⟨f, _, its, ⟨⟨_, _, _, _, _, _, _, _, _, _, rfl, l, c⟩⟩, k, mx, fun s us X hlen => ?_, rT⟩
  have l1 := rT.length
  have l2 : us.length = n := by
    rw [List.length_append] at hlen
    omega
  obtain ⟨kk, e1, e2⟩ := h us l2
  refine BindsTo.of_looks fun M => ?_
  rw [e1]
  exact looks_items X lT oT (.of_pure e2)
/-- .. all parameters given -/
theorem Dfd.ofAll {K : PySem.W.Frag} {mg : Str → Option Value} {x : Str} {st : Stmt} {ps : List Str} {f T : Addr} {oc : Value} {od an : Option Addr} {osl : Array (Option Value)} {kV doc pm cdv ct : Value} {o : Obj} {its : List Value} {n m : Nat}
    (l : K.lookup f = some ⟨oc, od, .func (PySem.W.fnOf x x (defArgs st) (defBody st) (defScope st) (.ref T) kV doc pm an cdv ct), osl⟩) (c : PySem.W.codeIn K cdv x = true) (k : PySem.W.keepIn K (.ref f) = true) (mx : mg x = some (.ref f))
    (lT : K.lookup T = some o) (oT : o.data = .seq its.toArray m) (hn : n = ps.length)
    (h : ∀ (us : List Value), us.length = n → ∃ kk, bindArgs (PySem.W.fnOf x x (defArgs st) (defBody st) (defScope st) (.ref T) kV doc pm an cdv ct) ⟨us, []⟩ = seqItems? (.ref T) >>= kk ∧ kk (some its.toArray) = pure (ps.zip us)) : Dfd K mg x st ps [] := by
  refine ⟨f, _, [], ⟨⟨_, _, _, _, _, _, _, _, _, _, rfl, l, c⟩⟩, k, mx, fun s us X hlen => ?_, .nil⟩
  have l2 : us.length = n := by
    rw [List.append_nil] at hlen
    omega
  obtain ⟨kk, e1, e2⟩ := h us l2
  refine BindsTo.of_looks fun M => ?_
  rw [e1, List.append_nil]
  exact looks_items X lT oT (.of_pure e2)
/-- .. and its promise -/
structure DnD (P : Program) (w : World) (K : PySem.W.Frag) (mg : Str → Option Value) (base : Heap) (k : Nat) (x : Str) (ps : List Str) (dvs : List V) (sp : Sp) : Prop where
  ex : ∃ (f : Addr) (fd : FuncData) (ds : List Value), FnG P w K mg base CX0 k f fd ps sp ∧ PySem.W.keepIn K (.ref f) = true ∧ mg x = some (.ref f) ∧ Binds K fd ps ds ∧ Vals dvs ds
theorem Dfd.ok {P : Program} {w : World} {K : PySem.W.Frag} {mg : Str → Option Value} {base : Heap} {x : Str} {st : Stmt} {dvs : List V} (D : Dfd K mg x st ps dvs)
    (h : ∀ f fd, FunA K x x st f fd → FnG P w K mg base CX0 k f fd ps sp) : DnD P w K mg base k x ps dvs sp := by
  obtain ⟨f, fd, ds, F, kp, m, b, d⟩ := D.ex
  exact ⟨f, fd, ds, h f fd F, kp, m, b, d⟩
theorem run_Gd {pins : List (Addr × Obj)} {σ : L2.St} {H : Hp} {s : Shared} {Q : VK} {E : XK} {us ds : List Value} {vs dvs : List V} (F : FnG X.prog X.w X.K X.mg X.base CX k f fd ps sp) (hr : RoomG k X.A) (hb : Binds X.K fd ps ds) (hd : Vals dvs ds)
    (out : ∀ e s', CX X.stack H s E e s' → X.xe e s') (I : Inv X pins σ H s) (r : Vals vs us) (h : sp (vs ++ dvs) H Q E) : wpAny (model X.prog X.w) X.A (call (.ref f) us) (EP X pins σ Q) X.xe s := by
  have r2 : Vals (vs ++ dvs) (us ++ ds) := r.append hd
  have n : (us ++ ds).length = ps.length := by rw [← r2.length]; exact F.arity _ _ _ _ h
  refine wpAny_call (codeAny_mono (F.go hr I.env0 (hb s us I.kIn n) r2 h) ?_)
  rintro (e | fl) s' q
  · exact out e s' q
  · match fl, q with
    | .ret u, q => exact I.after q
theorem pe_cDd {dvs : List V} (D : DnD X.prog X.w X.K X.mg X.base k x ps dvs sp) (hr : RoomG k X.A) (hg : Gl X x) (ha : PA X (e :: es) t) (hdb : (x == ("__debug__" : Str)) = false := by decide)
    (he : starEach (e :: es) X.env = (false, eval e X.env) :: starEach es X.env := by rfl) (hpl : (backTo pos (starEach es X.env)).any (·.1) = false := by rfl) : PE X (.Call (.Name x p) (e :: es) [] pos) (tCall sp dvs E0 t) := by
  obtain ⟨f, fd, ds, F, hk, hm, hb, hd⟩ := D.ex
  refine ⟨fun pins s σ H Q I h => wpAny_Call_Name_kw (ld_glob I hg hm (PySem.W.callWith_K (h₀ := X.base) I.ok.mod.kin hk (thn (ha.run pos pins s σ H _ I h) fun us s1 ⟨vs, H1, I1, r, q⟩ => ⟨I1.kIn, ?_⟩) he hpl) hdb)⟩
  exact run_Gd F hr hb hd (fun _ _ z => z.elim) I1 r q
/-- a call within a try: what is raised is wished at the slots -/
theorem pe_cX {E : L2.St → XK} (D : Dx X.prog X.w X.K X.mg X.base k x ps sp) (hr : RoomG k X.A) (hg : Gl X x) (hx : ∀ σ, PassesAt (L2.CX X.prog X.w) X σ (E σ)) (ha : PA X (e :: es) t) (hdb : (x == ("__debug__" : Str)) = false := by decide)
    (he : starEach (e :: es) X.env = (false, eval e X.env) :: starEach es X.env := by rfl) (hpl : (backTo pos (starEach es X.env)).any (·.1) = false := by rfl) : PE X (.Call (.Name x p) (e :: es) [] pos) (tCallS sp E t) := by
  obtain ⟨f, fd, F, hk, hm, hb⟩ := D.ex
  exact ⟨fun pins s σ H Q I h => wpAny_Call_Name_kw (ld_glob I hg hm (PySem.W.callWith_K (h₀ := X.base) I.ok.mod.kin hk (thn (ha.run pos pins s σ H _ I h) fun us s1 ⟨vs, H1, I1, r, q⟩ =>
    ⟨I1.kIn, run_G F hr hb (fun e s' z => hx σ pins H1 s1 e s' I1 z) I1 r q⟩) he hpl) hdb)⟩
/-- repr of what is data -/
def rRepr (K : PySem.W.Frag) : List V → Hp → VK → Prop := fun xs H Q => ∃ (x : V) (d : PyData), xs = [x] ∧ Dp K H x d ∧ d.showable = true ∧ d.depth ≤ 60 ∧ d.shown.length ≤ sizeLine ∧ Q (.str d.shown) H
mutual
theorem dp_noDict {K : PySem.W.Frag} {H : Hp} : ∀ (d : PyData) (x : V), Dp K H x d → d.hasDict = false
  | .none, _, _ => rfl
  | .bool _, _, _ => rfl
  | .int _, _, _ => rfl
  | .str _, _, _ => rfl
  | .list ds, _, h => by
    cases h with
    | lst _ ha => simpa [PyData.hasDict] using dp_noDicts ds _ ha
  | .tuple ds, _, h => by
    cases h with
    | tup _ ha => simpa [PyData.hasDict] using dp_noDicts ds _ ha
  | .dict _, _, h => by cases h
theorem dp_noDicts {K : PySem.W.Frag} {H : Hp} : ∀ (ds : List PyData) (xs : List V), DpAll K H xs ds → PyData.hasDictAll ds = false
  | [], _, _ => by simp [PyData.hasDictAll]
  | d :: ds, _, h => by
    cases h with
    | cons a b => simp [PyData.hasDictAll, dp_noDict d _ a, dp_noDicts ds _ b]
end
theorem reprK {K : PySem.W.Frag} (hr : RoomG k X.A) (eK : X.K = K := by rfl) : CallR X (.builtin "repr") (rRepr K) := by
  cases eK
  intro pins s σ H xs us Q I r h
  obtain ⟨x, d, rfl, hd, hs, hdep, hz, q⟩ := h
  obtain ⟨u, rfl, rx⟩ := vals1 r
  obtain ⟨as, rd⟩ := Dp.reads I d x u hd rx
  have hu := hr.units
  have nd := dp_noDict d x hd
  cases hd with
  | non => cases rx; exact PySem.P.repr_of_none ⟨.str _, H, I.tok _, ⟨_, rfl⟩, q⟩
  | bl b => cases rx; exact PySem.P.repr_of_bool ⟨.str _, H, I.tok _, ⟨_, rfl⟩, q⟩
  | int i => obtain ⟨t, rfl⟩ := rx; exact PySem.P.repr_of_int (of_decide_eq_true (by simpa [PyData.showable] using hs)) ⟨.str _, H, I.tok _, ⟨_, rfl⟩, q⟩
  | str z => obtain ⟨t, rfl⟩ := rx; exact PySem.P.repr_of_str ⟨.str _, H, I.tok _, ⟨_, rfl⟩, q⟩ hz
  | lst hq ha =>
    cases rx
    refine repr_of_reads' rd hs (PyData.noDict_hsm nd) hr.idle (by omega) (fun _ _ z => z) (fun h' u tk hk => ⟨.str _, H, I.kept hk, ⟨_, rfl⟩, q⟩) hz
  | tup hq ha =>
    cases rx
    refine repr_of_reads' rd hs (PyData.noDict_hsm nd) hr.idle (by omega) (fun _ _ z => z) (fun h' u tk hk => ⟨.str _, H, I.kept hk, ⟨_, rfl⟩, q⟩) hz
end
end Toy
namespace Toy
open PySem PySem.Spec PyProof.Rows L2
/-- what was tracked stays, but for one object -/
def But (p : Addr) (H H' : Hp) : Prop := ∀ b o, b ≠ p → H b = some o → H' b = some o
theorem But.refl {p : Addr} {H : Hp} : But p H H := fun _ _ _ h => h
theorem But.trans {p : Addr} {H H1 H2 : Hp} (a : But p H H1) (b : But p H1 H2) : But p H H2 := fun c o n h => b c o n (a c o n h)
theorem But.free {p : Addr} {H H' : Hp} (e : But p H H') {l : Addr} (n : l ≠ p) (h : H' l = Option.none) : H l = Option.none := by
  cases q : H l with
  | none => rfl
  | some o =>
    rw [e l o n q] at h
    cases h
theorem same_but {p : Addr} {H H' : Hp} (a : Same H H') : But p H H' := fun c o _ h => a c o h
theorem But.upd {p : Addr} {H : Hp} {o : HO} : But p H (upd H p o) := fun b u n h => by rw [upd_ne n]; exact h
theorem same_new {H : Hp} {p : Addr} (h : H p = none) (o : HO) : Same H (upd H p o) := fun b u q => by rw [upd_ne (ne_of_none q h)]; exact q
theorem but_tup {p : Addr} {K : PySem.W.Frag} {H H' : Hp} {a : Addr} {xs ys : List V} (e : But p H H') (hp : H p = some (.lst ys)) (h : SqT K H a xs) : SqT K H' a xs := by
  rcases h with (h | ⟨o, h⟩) | h
  · exact .inl (.inl (e _ _ (ne_of h hp (by intro z; cases z)) h))
  · exact .inl (.inr ⟨o, e _ _ (ne_of h hp (by intro z; cases z)) h⟩)
  · exact .inr h
theorem same_tup {K : PySem.W.Frag} {H H' : Hp} {a : Addr} {xs : List V} (e : Same H H') (h : SqT K H a xs) : SqT K H' a xs := by
  rcases h with (h | ⟨o, h⟩) | h
  · exact .inl (.inl (e _ _ h))
  · exact .inl (.inr ⟨o, e _ _ h⟩)
  · exact .inr h
/-- the script stays -/
theorem but_seq {p : Addr} {K : PySem.W.Frag} {H H' : Hp} {a : Addr} {xs : List V} (e : But p H H') (n : a ≠ p) (h : SqL K H a xs) : SqL K H' a xs := by
  rcases h with (h | ⟨o, h⟩) | h
  · exact .inl (.inl (e _ _ n h))
  · exact .inl (.inr ⟨o, e _ _ n h⟩)
  · exact .inr h
theorem small {n : Nat} (h : n ≤ 1000) : n ≤ sizeLine := Nat.le_of_lt (small1000 h)
theorem log_lt {i : Int} {n : Nat} (h0 : 0 < n) (h : i.natAbs < 2 ^ n) : i.natAbs.log2 < n := PySem.Flt.log2_lt_of h0 h
theorem divp_small {i j : Int} (hj : 0 < j) (h : j < 2 ^ 8000) : CDivP i j := by
  refine ⟨hj, PyProof.noPylong_of_log2 ?_⟩
  exact Nat.lt_trans (log_lt (n := 8000) (by decide) (by omega)) (by decide)
end Toy
namespace Toy
open PySem PySem.Spec PyProof.Rows L2
theorem ifT {c : Bool} {A B : Prop} (hc : c = true) (h : A) : if c = true then A else B := by rw [if_pos hc]; exact h
theorem ifF {c : Bool} {A B : Prop} (hc : c = false) (h : B) : if c = true then A else B := by rw [hc]; exact iteF h
theorem pj {j : Int} (h : decide ((0 : Int) < j) = true := by decide) : 0 < j := of_decide_eq_true h
theorem sz {xs : List V} (h : Nat.ble xs.length 1000 = true := by rfl) : xs.length ≤ sizeLine := small (Nat.le_of_ble_eq_true h)
theorem but_same {p : Addr} {H H1 H2 : Hp} (n : H p = none) (a : Same H H1) (b : But p H1 H2) : Same H H2 := fun c o h => b c o (ne_of_none h n) (a c o h)
/-- two ways of a value meet -/
theorem ifE {ta tb : TE} {σ : L2.St} {H : Hp} {Q : VK} {b : Bool} (R : V → Hp → Prop) (h : ∀ v H', R v H' → Q v H') (h1 : b = true → ∀ Q' : VK, (∀ v H', R v H' → Q' v H') → ta σ H Q') (h2 : b = false → ∀ Q' : VK, (∀ v H', R v H' → Q' v H') → tb σ H Q') :
    if b = true then ta σ H Q else tb σ H Q := by
  cases b with
  | true => exact iteT (h1 rfl Q h)
  | false => exact iteF (h2 rfl Q h)
theorem mulx {i j : Int} (a b : Nat) (ha : i.natAbs < 2 ^ a) (hb : j.natAbs < 2 ^ b) (h : a + b ≤ 134217728 := by decide) : CMulX i j := mulx_ok ha hb h
end Toy
namespace Toy
open PySem PySem.Spec PyProof.Rows L2
theorem qi {Q : VK} {H : Hp} {a b : Int} (q : Q (.int a) H) (e : a = b) : Q (.int b) H := e ▸ q
end Toy
namespace Toy
open PySem PySem.Spec PyProof.Rows L2
/-- the written part by its letter -/
theorem kk {α : Sort _} {P : α → Prop} {F : PySem.W.Frag → α} {K0 K : PySem.W.Frag} (h : P (F K0)) (e : K0 = K := by rfl) : P (F K) := e ▸ h
def rLen (K : PySem.W.Frag) : List V → Hp → VK → Prop := fun xs H Q => ∃ p ys, xs = [.ref p] ∧ (SqL K H p ys ∨ SqT K H p ys) ∧ Q (.int ys.length) H
theorem lenK {X : Cx} {K : PySem.W.Frag} (e : X.K = K := by rfl) : CallR X (.builtin "len") (rLen K) := by cases e; exact call_len_seq
def rLstOf (K : PySem.W.Frag) : List V → Hp → VK → Prop := fun xs H Q => ∃ p ys, xs = [.ref p] ∧ (SqL K H p ys ∨ SqT K H p ys) ∧ ∀ l, H l = none → Q (.ref l) (upd H l (.lst ys))
theorem lstOfK {X : Cx} {K : PySem.W.Frag} (e : X.K = K := by rfl) : CallR X (.type "list") (rLstOf K) := by cases e; exact call_list_of
def rTupOf (K : PySem.W.Frag) : List V → Hp → VK → Prop := fun xs H Q => ∃ p ys, xs = [.ref p] ∧ ((SqL K H p ys ∧ ∀ l, H l = none → Q (.ref l) (upd H l (.tup ys))) ∨ (SqT K H p ys ∧ Q (.ref p) H))
theorem tupOfK {X : Cx} {K : PySem.W.Frag} (e : X.K = K := by rfl) : CallR X (.type "tuple") (rTupOf K) := by cases e; exact call_tuple_of
theorem dec_ne {α : Type} [DecidableEq α] {a b : α} (h : a = b) : (!decide (a = b)) = false := by rw [decide_eq_true h] <;> rfl
end Toy
namespace Toy
open PySem PySem.Spec PyProof.Rows L2
/-- a tuple of the written part; a tuple that never changes -/
def KTup (K : PySem.W.Frag) (a : Addr) (xs : List V) : Prop := ∃ (o : Obj) (its : Array Value) (n : Nat), K.lookup a = some o ∧ o.cls = .type "tuple" ∧ o.data = .seq its n ∧ its.size ≤ sizeLine ∧ Vals xs its.toList
def TupAt (K : PySem.W.Frag) (H : Hp) (a : Addr) (xs : List V) : Prop := H a = some (.tup xs) ∨ KTup K a xs
theorem TupAt.sq {K : PySem.W.Frag} {H : Hp} {a : Addr} {xs : List V} (h : TupAt K H a xs) : SqT K H a xs := by
  rcases h with h | h
  · exact SqT.of h
  · exact .inr h
theorem TupAt.ty {K : PySem.W.Frag} {H : Hp} {a : Addr} {xs : List V} (h : TupAt K H a xs) : TyX K H (.ref a) (.type "tuple") := by
  rcases h with h | ⟨o, its, n, h1, h2, _⟩
  · exact .base (.tup h)
  · exact .kTuple h1 h2
theorem TupAt.same {K : PySem.W.Frag} {H H' : Hp} {a : Addr} {xs : List V} (e : Same H H') (h : TupAt K H a xs) : TupAt K H' a xs := h.imp (e _ _) id
theorem TupAt.but {K : PySem.W.Frag} {H H' : Hp} {a p : Addr} {xs ys : List V} (e : But p H H') (hp : H p = some (.lst ys)) (h : TupAt K H a xs) : TupAt K H' a xs := h.imp (fun h => e _ _ (ne_of h hp (by intro z; cases z)) h) id
end Toy
namespace Toy
open PySem PySem.Spec PyProof.Rows L2
theorem ints_dp {K : PySem.W.Frag} {H : Hp} : ∀ ns : List Int, DpAll K H (ns.map V.int) (ns.map PyData.int)
  | [] => .nil
  | n :: r => .cons (.int n) (ints_dp r)
theorem ints_sh (ns : List Int) : SeqAt.shaped (.list (ns.map PyData.int)) = true := PySem.W.ke_shaped_ints ns
theorem ints_refl (ns : List Int) : PyData.eqv (.list (ns.map PyData.int)) (.list (ns.map PyData.int)) = true := SeqAt.eqv_refl _ (SeqAt.canLay_of_shaped (ints_sh ns))
theorem lst_dp {K : PySem.W.Frag} {H : Hp} {a : Addr} {ns : List Int} (h : SqL K H a (ns.map V.int)) : Dp K H (.ref a) (.list (ns.map PyData.int)) := .lst h (ints_dp ns)
theorem tupI_dp {K : PySem.W.Frag} {H : Hp} {a : Addr} {ns : List Int} (h : SqT K H a (ns.map V.int)) : Dp K H (.ref a) (.tuple (ns.map PyData.int)) := .tup h (ints_dp ns)
theorem tupI_sh (ns : List Int) : SeqAt.shaped (.tuple (ns.map PyData.int)) = true := ints_sh ns
theorem tupI_refl (ns : List Int) : PyData.eqv (.tuple (ns.map PyData.int)) (.tuple (ns.map PyData.int)) = true := SeqAt.eqv_refl _ (SeqAt.canLay_of_shaped (tupI_sh ns))
theorem cut_map (us : List Int) (lo hi : Option Int) : ∃ ws : List Int, cutV (us.map V.int) lo hi = ws.map V.int ∧ ws.length ≤ us.length ∧ ∀ x ∈ ws, x ∈ us := by
  refine ⟨(us.drop (HT.sIx (us.map V.int).length 0 lo)).take (HT.sIx (us.map V.int).length (us.map V.int).length hi - HT.sIx (us.map V.int).length 0 lo), ?_, ?_, fun x hx => List.mem_of_mem_drop (List.mem_of_mem_take hx)⟩
  · unfold cutV; rw [List.map_take, List.map_drop]
  · rw [List.length_take, List.length_drop]; omega
theorem at_map {us : List Int} {i : Nat} {y : V} (h : (us.map V.int)[i]? = some y) : ∃ x : Int, y = .int x ∧ us[i]? = some x := by
  rw [List.getElem?_map] at h
  cases e : us[i]? with
  | none => rw [e] at h; cases h
  | some x => rw [e] at h; exact ⟨x, (Option.some.inj h).symm, rfl⟩
end Toy
namespace Toy
open PySem PySem.Spec PyProof.Rows L2
/-- the heap in which the script alone stands, unless the text's own part holds it -/
def scriptH (K : PySem.W.Frag) (a : Addr) (o : Obj) (ns : List Int) : Hp := fun c => if (K.lookup a).isNone = true ∧ c = a then some (.frz o (.lst (ns.map V.int))) else none
theorem scriptH_none {K : PySem.W.Frag} {a b : Addr} {o : Obj} {ns : List Int} : scriptH K a o ns b = none ∨ (b = a ∧ K.lookup a = none ∧ scriptH K a o ns b = some (.frz o (.lst (ns.map V.int)))) := by
  unfold scriptH
  by_cases c : (K.lookup a).isNone = true ∧ b = a
  · exact .inr ⟨c.2, Option.isNone_iff_eq_none.mp c.1, if_pos c⟩
  · exact .inl (if_neg c)
theorem law_G {P : Program} {w : World} {K : PySem.W.Frag} {mg mb : Str → Option Value} {k : Nat} {fa a : Addr} {fd : FuncData} {x : Str} {sp : Sp} {s : Shared} {vs : List Value} {ns : List Int}
    (KX : K.In s.heap) (hns : s.heap.Ns mainGlobals mg) (hb : s.heap.Ns builtinsNs mb) (hbb : ∀ x : Str, x ≠ "__name__" → mb x = bootBuiltins x) (hlim : s.heap.NoLimit) (hg : s.gens = #[])
    (ha : s.heap.get? a = some { cls := .type "list", data := .seq vs.toArray }) (hi : IntsAre vs ns) (hl : ns.length ≤ sizeLine) (hr : Room k PySem.callerA)
    (F : ∀ base : Heap, K.In base → base.Ns mainGlobals mg → FnG P w K mg base CX0 k fa fd [x] sp) (hbind : ∀ (s : Shared) (u : Value), BindsTo s fd ⟨[u], []⟩ [(x, u)])
    (hsp : ∀ H : Hp, SqL K H a (ns.map V.int) → sp [.ref a] H (fun v _ => v = .bl true) fun _ _ _ => False) :
    codeAny (model P w) PySem.callerA (.call (.ref fa) ⟨[.ref a], []⟩) (fun r s' => r = .ok (.ret (.bool true)) ∧ OldK s.heap s'.heap ∧ s'.os = s.os ∧ AllBare s'.gens) s := by
  let H : Hp := scriptH K a { cls := .type "list", data := .seq vs.toArray } ns
  have hH : ∀ b, H b = none ∨ (b = a ∧ K.lookup a = none ∧ H b = some (.frz { cls := .type "list", data := .seq vs.toArray } (.lst (ns.map V.int)))) := fun b => scriptH_none
  have rv := vals_ints hi
  have hok : HOk P w H s.heap := by
    intro b u e
    rcases hH b with z | ⟨rfl, _, z⟩
    · rw [z] at e; cases e
    · rw [z] at e
      cases e
      exact ⟨ha, by rw [List.length_map]; exact hl, vs, _, rv, ha⟩
  have hS : SqL K H a (ns.map V.int) := by
    cases q : K.lookup a with
    | none => exact .inl (.inr ⟨_, show scriptH K a _ ns a = _ from if_pos ⟨by rw [q] <;> rfl, rfl⟩⟩)
    | some o =>
      have e := KX a o q
      rw [ha] at e
      cases e
      exact .inr ⟨_, vs.toArray, _, q, rfl, rfl, rfl, by rw [List.size_toArray, hi.length]; exact hl, by simpa using rv⟩
  -- what is no list is not the script
  have notA : ∀ {b : Addr} {o : Obj} {es : Array DictEntry} {ep : Nat}, s.heap.get? b = some o → o.data = .dict es ep → H b = none := by
    intro b o es ep e d
    rcases hH b with z | ⟨rfl, _, _⟩
    · exact z
    · rw [ha] at e
      cases e
      cases (show Data.seq vs.toArray _ = Data.dict es ep from d)
  have ns' : ∀ {b : Addr} {m : Str → Option Value}, s.heap.Ns b m → (hidT s.heap H).Ns b m := by
    rintro b m ⟨o, es, ep, e, d, r⟩
    exact ⟨o, es, ep, hidT_get e (notA e d), d, r⟩
  have kin' : K.In (hidT s.heap H) := by
    intro b o e
    refine hidT_get (KX b o e) ?_
    rcases hH b with z | ⟨rfl, q, _⟩
    · exact z
    · rw [q] at e; cases e
  have md : Mod K mg (hidT s.heap H) := ⟨kin', ns' hns, ⟨mb, ns' hb, hbb⟩, hlim.imp fun _ z => ⟨ns' z.1, z.2⟩⟩
  have e0 : Env0 P w K mg (hidT s.heap H) PySem.callerA [] s H := ⟨rfl, md, fun _ _ z => of_hidT z, Nat.le_of_eq (hidT_size _ _), trivial, (by intro b z; cases z), hok, .of_eq hg⟩
  refine codeAny_mono ((F _ kin' (ns' hns)).go (us := [.ref a]) (vs := [.ref a]) ⟨hr, rfl⟩ e0 (hbind s (.ref a)) (.cons rfl .nil) (hsp H hS)) ?_
  rintro (e | fl) s' q
  · exact q.elim
  match fl, q with
  | .ret u, ⟨v, H', os, bare, un, ok', r', q⟩ =>
    have q' : v = .bl true := q
    subst q'
    obtain rfl : u = Value.bool true := r'
    refine ⟨rfl, OldK.of_keep fun b o e => ?_, os, bare⟩
    rcases hH b with z | ⟨_, _, z⟩
    · exact un.keep b o e z (by intro y; cases y) (by intro y; cases y)
    · have z1 := (hok b _ z).1
      have z2 := (ok' b _ (un.frzs b _ _ z)).1
      rw [e] at z1
      cases z1
      exact z2
theorem walk_G {l : PySem.W.OpenLaw} {n k : Nat} {q : Program} {loose : List Str} {XP : (Str → Option Value) → Heap → Prop} {YP : World → Heap → Prop} {d : DefRec} {K : Params → PySem.W.Frag} {sp : PySem.W.Frag → Sp} {x : Str}
    (hn : l.most = some n) (hn2 : n ≤ sizeLine) (hdf : d.params.defaults = []) (hr : Room k PySem.callerA) (hY : ∀ (w : World) (h : Heap), YP w h → (K w.params).In h)
    (F : ∀ (w : World) (mg : Str → Option Value) (fa : Addr) (h : Heap), (K w.params).In h → h.Ns mainGlobals mg → mg d.name = some (.ref fa) →
      ∃ fd : FuncData, (∀ (s : Shared) (u : Value), BindsTo s fd ⟨[u], []⟩ [(x, u)]) ∧ ∀ base : Heap, (K w.params).In base → base.Ns mainGlobals mg → FnG l.prog w (K w.params) mg base CX0 k fa fd [x] (sp (K w.params)))
    (hsp : ∀ (K : PySem.W.Frag) (H : Hp) (a : Addr) (ns : List Int), ns.length ≤ n → SqL K H a (ns.map V.int) → sp K [.ref a] H (fun v _ => v = .bl true) fun _ _ _ => False) :
    PySem.W.WalkO q loose XP YP l.row.toRowW d [] (fun f vs => PySem.call f vs) :=
  Att.attach_call hn hdf fun w s0 s1 mg mb fa o pm cd doc a vs ns G Y ho hd hcd hmg hobj hints hlen hg => by
    have KX := hY w _ Y
    obtain ⟨fd, hbd, hF⟩ := F w mg fa _ KX G.T.g hmg
    exact law_G KX G.T.g G.T.b G.T.builtins G.T.nolimit hg hobj hints (Nat.le_trans hlen hn2) hr hF hbd fun H hS => hsp _ H a ns hlen hS
end Toy
namespace Toy
open PySem PySem.Spec PyProof.Rows L2
/-! ### how long a shown datum is -/
mutual
def cst : PyData → Nat
  | .none => 5
  | .bool _ => 5
  | .int _ => 1921
  | .str x => (reprText x).length
  | .list xs => csts xs + 4
  | .tuple xs => csts xs + 4
  | .dict _ => 0
def csts : List PyData → Nat
  | [] => 0
  | x :: xs => cst x + 4 + csts xs
end
theorem tupT_len (ts : List Str) : (tupleText ts).length ≤ piled ts + 4 := by
  unfold tupleText
  rw [strLen_append, strLen_append]
  have e1 : ((("(" : String) : Str)).length = 1 := rfl
  have e3 : (((if ts.length == 1 then ",)" else ")" : String) : Str)).length ≤ 2 := by split <;> decide +kernel
  by_cases h : ts = []
  · subst h; decide +kernel
  · have := join_length_add ts h; omega
theorem txtFrom_len : ∀ (ts : List Str) (k : Nat) (acc : Str), (textFrom k acc ts).length ≤ acc.length + piled ts
  | [], k, acc => Nat.le_add_right _ _
  | t :: r, k, acc => by
    have h := txtFrom_len r (k + 1) (acc ++ (if k > 0 then ", " else "" : String) ++ t)
    have e : (acc ++ (if k > 0 then ", " else "" : String) ++ t).length = acc.length + (if k > 0 then 2 else 0) + t.length := by
      rw [strLen_append, strLen_append]
      split <;> rfl
    rw [e] at h
    rw [piled_cons]
    have h2 : (textFrom k acc (t :: r)).length = (textFrom (k + 1) (acc ++ (if k > 0 then ", " else "" : String) ++ t) r).length := rfl
    rw [h2]
    have e2 : (if k > 0 then 2 else 0) ≤ 2 := by split <;> omega
    omega
theorem lstT_len (ts : List Str) : (listText ts).length ≤ piled ts + 4 := by
  unfold listText
  rw [strLen_append]
  have h := txtFrom_len ts 0 "["
  have e1 : ((("[" : String) : Str)).length = 1 := rfl
  have e2 : ((("]" : String) : Str)).length = 1 := rfl
  omega
mutual
theorem shown_le : ∀ d : PyData, d.showable = true → d.hasDict = false → d.shown.length ≤ cst d
  | .none, _, _ => by show (("None" : String) : Str).length ≤ 5; decide +kernel
  | .bool b, _, _ => by cases b <;> (show _ ≤ 5; decide +kernel)
  | .int i, h, _ => PyProof.Rows.int_text_len_1921 (of_decide_eq_true (by simpa [PyData.showable] using h))
  | .str x, _, _ => Nat.le_refl _
  | .list ds, h, g => by
    have h1 := showns_le ds (by simpa [PyData.showable] using h) (by simpa [PyData.hasDict] using g)
    have h2 := lstT_len (PyData.shownAll ds)
    show (listText (PyData.shownAll ds)).length ≤ csts ds + 4
    omega
  | .tuple ds, h, g => by
    have h1 := showns_le ds (by simpa [PyData.showable] using h) (by simpa [PyData.hasDict] using g)
    have h2 := tupT_len (PyData.shownAll ds)
    show (tupleText (PyData.shownAll ds)).length ≤ csts ds + 4
    omega
  | .dict _, _, g => by simp [PyData.hasDict] at g
theorem showns_le : ∀ ds : List PyData, PyData.showableAll ds = true → PyData.hasDictAll ds = false → piled (PyData.shownAll ds) ≤ csts ds
  | [], _, _ => Nat.le_refl _
  | d :: ds, h, g => by
    have h1 := shown_le d (by simp [PyData.showableAll] at h; exact h.1) (by simp [PyData.hasDictAll] at g; exact g.1)
    have h2 := showns_le ds (by simp [PyData.showableAll] at h; exact h.2) (by simp [PyData.hasDictAll] at g; exact g.2)
    show piled (d.shown :: PyData.shownAll ds) ≤ _
    rw [piled_cons]
    show _ ≤ cst d + 4 + csts ds
    omega
end
theorem shown_sz {d : PyData} (h : d.showable = true) (g : d.hasDict = false) (c : cst d ≤ 10000000) : d.shown.length ≤ sizeLine :=
  Nat.le_trans (shown_le d h g) (Nat.le_trans c (by decide))
end Toy
namespace Toy
open PySem PySem.Spec PyProof.Rows L2
/-- a list of ints grown by a part of another one -/
theorem ext_cut {L z : Addr} {ws es : List Int} {lo hi : Option Int} {H : Hp} {R : VK} (hL : H L = some (.lst (ws.map V.int))) (hz : H z = some (.lst (cutV (es.map V.int) lo hi))) (hs : ws.length + es.length ≤ 1000)
    (q : ∀ us : List Int, us.length ≤ es.length → (∀ x ∈ us, x ∈ es) → R .non (upd H L (.lst ((ws ++ us).map V.int)))) : rExtend (.ref L) [.ref z] H R := by
  obtain ⟨us, e, h1, h2⟩ := cut_map es lo hi
  rw [e] at hz
  refine ⟨L, z, _, _, rfl, rfl, hL, hz, small (by rw [List.length_map, List.length_map]; omega), ?_⟩
  have := q us h1 h2
  rw [List.map_append] at this
  exact this
theorem rep_len {n : Nat} : ((List.replicate n true).map V.bl).length = n := by rw [List.length_map, List.length_replicate]
theorem rep_snoc {n : Nat} : (List.replicate n true).map V.bl ++ [V.bl true] = (List.replicate (n + 1) true).map V.bl := by rw [List.replicate_succ', List.map_append] <;> rfl
theorem rep_all (n : Nat) : (List.replicate n true).all id = true := by rw [List.all_eq_true]; intro x hx; rw [List.mem_replicate] at hx; exact hx.2
theorem ixn {n j : Nat} (hj : j < n) : ixN n (j : Int) = some j := by
  unfold ixN
  rw [if_pos (by omega), if_pos (by omega)]
  exact congrArg some (Int.toNat_natCast j)
theorem dec_self (a : V) : decide (a = a) = true := decide_eq_true rfl
end Toy
namespace Toy
open PySem PySem.Spec PyProof.Rows L2
/-- a comprehension within a comprehension -/
theorem relabel_kept {env : Env} : ∀ {names : List (Str × NameKind)} {x : Str}, names.lookup x = some .cell ∨ names.lookup x = some .free →
    (names.map fun (n, k) => if (k == NameKind.free && env.scope.kind == .function && env.kindOf n == some .cell) then (n, NameKind.cell) else (n, k)).lookup x = some .cell ∨
    (names.map fun (n, k) => if (k == NameKind.free && env.scope.kind == .function && env.kindOf n == some .cell) then (n, NameKind.cell) else (n, k)).lookup x = some .free
  | [], _, h => by simp at h
  | (n, k) :: r, x, h => by
    have ih := @relabel_kept env r x
    show List.lookup x ((if (k == NameKind.free && env.scope.kind == .function && env.kindOf n == some .cell) = true then (n, NameKind.cell) else (n, k)) :: _) = _ ∨ List.lookup x ((if (k == NameKind.free && env.scope.kind == .function && env.kindOf n == some .cell) = true then (n, NameKind.cell) else (n, k)) :: _) = _
    cases hx : x == n with
    | true =>
      simp only [List.lookup_cons, hx] at h
      by_cases hc : (k == NameKind.free && env.scope.kind == .function && env.kindOf n == some .cell) = true
      · rw [if_pos hc]; exact .inl (by simp [List.lookup_cons, hx])
      · rw [if_neg hc]; simp only [List.lookup_cons, hx]; exact h
    | false =>
      simp only [List.lookup_cons, hx] at h
      by_cases hc : (k == NameKind.free && env.scope.kind == .function && env.kindOf n == some .cell) = true
      · rw [if_pos hc]; simp only [List.lookup_cons, hx]; exact ih h
      · rw [if_neg hc]; simp only [List.lookup_cons, hx]; exact ih h
theorem blkOk_nest {X : Cx} {s : Shared} {H : Hp} {scope1 scope : Scope} {cl : List (Str × Addr)} {C : Addr} {env : Env} {fp : List Addr} {own : List (Str × Nat)} {N : List Str} (hN : X.N = N) (h : blkC N scope1 scope own = true) :
    BlkOk (X.blk s H scope1 (compEnvC scope1 cl C env) fp).N (X.blk s H scope1 (compEnvC scope1 cl C env) fp).env.scope scope own := by
  subst hN
  obtain ⟨h1, h2, h3, h4, h5⟩ := blkOk_by h
  exact ⟨h1, h2, h3, fun y hy e => relabel_kept (h4 y hy e), h5⟩
end Toy
namespace Toy
open PySem PySem.Spec PyProof.Rows L2
/-! ### own classes -/
/-- where a name's class stands -/
def cAt (mg : Str → Option Value) (x : Str) : Addr := match mg x with | some (.ref C) => C | _ => 0
theorem cAt_eq {mg : Str → Option Value} {x : Str} {C : Addr} (h : mg x = some (.ref C)) : cAt mg x = C := by unfold cAt; rw [h]
structure ClsF (K : PySem.W.Frag) (mg : Str → Option Value) (x : Str) (fs : List Str) : Prop where
  mg_ : mg x = some (.ref (cAt mg x))
  cl : Cls K (cAt mg x)
  no : ∀ f ∈ fs, NoAttr K (cAt mg x) f
theorem ClsF.of {K : PySem.W.Frag} {mg : Str → Option Value} {x : Str} {C : Addr} {fs : List Str} (m : mg x = some (.ref C)) (c : Cls K C) (n : ∀ f ∈ fs, NoAttr K C f) : ClsF K mg x fs := by
  have e := cAt_eq m
  exact ⟨by rw [e]; exact m, by rw [e]; exact c, by rw [e]; exact n⟩
/-- a method, by its class -/
structure DfM (K : PySem.W.Frag) (C : Addr) (m q : Str) (st : Stmt) (ps : List Str) : Prop where
  ex : ∃ f fd, Fun K m q st f fd ∧ Meth K C m f ∧ Binds K fd ps []
theorem DfM.of {K : PySem.W.Frag} {mg : Str → Option Value} {x m q : Str} {st : Stmt} {ps : List Str} {f C : Addr} {oc : Value} {od an : Option Addr} {osl : Array (Option Value)} {kV doc pm cdv ct : Value} (hC : mg x = some (.ref C))
    (a : PySem.W.findIn K (.ref C) m = some (some (.ref f))) (i : PySem.W.isFn K (.ref f) = true)
    (l : K.lookup f = some ⟨oc, od, .func (PySem.W.fnOf m q (defArgs st) (defBody st) (defScope st) .none kV doc pm an cdv ct), osl⟩) (c : PySem.W.codeIn K cdv q = true) (k : PySem.W.keepIn K (.ref f) = true)
    (h : ∀ (kV doc pm : Value) (an : Option Addr) (cdv ct : Value) (us : List Value), us.length = ps.length → bindArgs (PySem.W.fnOf m q (defArgs st) (defBody st) (defScope st) .none kV doc pm an cdv ct) ⟨us, []⟩ = pure (ps.zip us)) : DfM K (cAt mg x) m q st ps := by
  rw [cAt_eq hC]
  exact ⟨_, _, fun_mk l c k, ⟨a, i, k⟩, (fun_mk l c k).binds h⟩
structure DnM (P : Program) (w : World) (K : PySem.W.Frag) (mg : Str → Option Value) (base : Heap) (C : Addr) (k : Nat) (m : Str) (ps : List Str) (sp : Sp) : Prop where
  ex : ∃ f fd, FnG P w K mg base CX0 k f fd ps sp ∧ Meth K C m f ∧ Binds K fd ps []
theorem DfM.ok {P : Program} {w : World} {K : PySem.W.Frag} {mg : Str → Option Value} {base : Heap} {C : Addr} {m q : Str} {st : Stmt} {ps : List Str} {k : Nat} {sp : Sp} (D : DfM K C m q st ps)
    (h : ∀ f fd, Fun K m q st f fd → FnG P w K mg base CX0 k f fd ps sp) : DnM P w K mg base C k m ps sp := by
  obtain ⟨f, fd, F, mt, b⟩ := D.ex
  exact ⟨f, fd, h f fd F, mt, b⟩
/-- the maker of a class -/
structure DfI (K : PySem.W.Frag) (C : Addr) (q : Str) (st : Stmt) (ps : List Str) : Prop where
  ex : ∃ f fd, Fun K "__init__" q st f fd ∧ Mk K C f ∧ Binds K fd ps []
theorem DfI.of {K : PySem.W.Frag} {mg : Str → Option Value} {x q : Str} {st : Stmt} {ps : List Str} {f C : Addr} {oc : Value} {od an : Option Addr} {osl : Array (Option Value)} {kV doc pm cdv ct : Value} (hC : mg x = some (.ref C))
    (a : PySem.W.findIn K (.ref C) "__init__" = some (some (.ref f))) (i : PySem.W.isFn K (.ref f) = true)
    (l : K.lookup f = some ⟨oc, od, .func (PySem.W.fnOf "__init__" q (defArgs st) (defBody st) (defScope st) .none kV doc pm an cdv ct), osl⟩) (c : PySem.W.codeIn K cdv q = true) (k : PySem.W.keepIn K (.ref f) = true)
    (mk : PySem.W.makesIn K C = true) (kc : PySem.W.keepIn K (.ref C) = true)
    (h : ∀ (kV doc pm : Value) (an : Option Addr) (cdv ct : Value) (us : List Value), us.length = ps.length → bindArgs (PySem.W.fnOf "__init__" q (defArgs st) (defBody st) (defScope st) .none kV doc pm an cdv ct) ⟨us, []⟩ = pure (ps.zip us)) : DfI K (cAt mg x) q st ps := by
  rw [cAt_eq hC]
  exact ⟨_, _, fun_mk l c k, ⟨mk, a, i, kc⟩, (fun_mk l c k).binds h⟩
structure DnI (P : Program) (w : World) (K : PySem.W.Frag) (mg : Str → Option Value) (base : Heap) (C : Addr) (k : Nat) (ps : List Str) (sp : Sp) : Prop where
  ex : ∃ f fd, FnG P w K mg base CX0 k f fd ps sp ∧ Mk K C f ∧ Binds K fd ps []
theorem DfI.ok {P : Program} {w : World} {K : PySem.W.Frag} {mg : Str → Option Value} {base : Heap} {C : Addr} {q : Str} {st : Stmt} {ps : List Str} {k : Nat} {sp : Sp} (D : DfI K C q st ps)
    (h : ∀ f fd, Fun K "__init__" q st f fd → FnG P w K mg base CX0 k f fd ps sp) : DnI P w K mg base C k ps sp := by
  obtain ⟨f, fd, F, mt, b⟩ := D.ex
  exact ⟨f, fd, h f fd F, mt, b⟩
theorem RoomG.make {k : Nat} {A : Around} (r : RoomG (k + 1) A) (C : Addr) (us : List Value) (kw : List (Str × Value)) : RoomG k (A.under (.builtin "type.__call__" ⟨.ref C :: us, kw⟩)) :=
  ⟨r.room.make C us kw, r.idle⟩
section
variable {X : Cx} {k : Nat} {C : Addr} {ps : List Str} {sp : Sp} {x m : Str} {p pos apos : Pos} {e o : Expr} {es : List Expr} {ta : TE} {t : TA}
theorem pe_mG {pl : Sem Bool} (D : DnM X.prog X.w X.K X.mg X.base C k m ps sp) (c : Cls X.K C) (hr : RoomG k X.A) (he : PE X o ta) (ha : PA X (e :: es) t)
    (hst : starEach (e :: es) X.env = (false, eval e X.env) :: starEach es X.env := by rfl) (hpl : (backTo pos (starEach es X.env)).any (·.1) = false := by rfl)
    (ht : eval (.Call (.Attribute o m apos) (e :: es) [] pos) X.env = (do
      let ov ← eval o X.env
      standAt apos.atName
      let (f, first) ← holding [ov] (getMethod ov m pl)
      callWith pos f first (backTo pos (starEach (e :: es) X.env)) (backToKw pos (keywordEach [] X.env))) := by rfl) :
    PE X (.Call (.Attribute o m apos) (e :: es) [] pos) (tMeth C m sp [] E0 ta t) := by
  obtain ⟨f, fd, F, hm, hb⟩ := D.ex
  refine ⟨fun pins s σ H Q I h => ?_⟩
  refine PySem.W.methodCall_KW (pl := pl) (thn (he.run pins s σ H _ I h) fun u s1 ⟨x, H1, I1, rx, a, dx, fs, ex, ea, l, q⟩ => ?_) ht
  subst ex
  obtain rfl : u = Value.ref a := rx
  refine getmeth_ok I1 ea c hm l ?_
  refine PySem.W.callWith_K (first := [.ref a]) (h₀ := X.base) I.ok.mod.kin hm.kp (thn (ha.run pos pins s1 σ H1 _ I1 q) fun us s2 ⟨vs, H2, I2, r, q2⟩ => ⟨I2.kIn, ?_⟩) hst hpl
  have q' : sp (.ref a :: vs) H2 Q E0 := by
    have z : sp (.ref a :: (vs ++ [])) H2 Q E0 := q2
    rw [List.append_nil] at z
    exact z
  exact run_G (us := .ref a :: us) (vs := .ref a :: vs) F hr hb (fun _ _ z => z.elim) I2 (.cons rfl r) q'
theorem pe_mG0 {pl : Sem Bool} (D : DnM X.prog X.w X.K X.mg X.base C k m ps sp) (c : Cls X.K C) (hr : RoomG k X.A) (he : PE X o ta)
    (ht : eval (.Call (.Attribute o m apos) [] [] pos) X.env = (do
      let ov ← eval o X.env
      standAt apos.atName
      let (f, first) ← holding [ov] (getMethod ov m pl)
      callWith pos f first (backTo pos (starEach [] X.env)) (backToKw pos (keywordEach [] X.env))) := by rfl) :
    PE X (.Call (.Attribute o m apos) [] [] pos) (tMeth C m sp [] E0 ta tNil) := by
  obtain ⟨f, fd, F, hm, hb⟩ := D.ex
  refine ⟨fun pins s σ H Q I h => ?_⟩
  refine PySem.W.methodCall_KW (pl := pl) (thn (he.run pins s σ H _ I h) fun u s1 ⟨x, H1, I1, rx, a, dx, fs, ex, ea, l, q⟩ => ?_) ht
  subst ex
  obtain rfl : u = Value.ref a := rx
  refine getmeth_ok I1 ea c hm l ?_
  exact PySem.W.callWith_K0 (first := [.ref a]) I1.kIn hm.kp (run_G (us := [.ref a]) (vs := [.ref a]) F hr hb (fun _ _ z => z.elim) I1 (.cons rfl .nil) q)
theorem run_mkG {pins : List (Addr × Obj)} {σ : L2.St} {H : Hp} {s : Shared} {Q : VK} {us : List Value} {vs : List V} {f : Addr} {fd : FuncData} (M : Mk X.K C f) (F : FnG X.prog X.w X.K X.mg X.base CX0 k f fd ps sp) (hr : RoomG (k + 1) X.A) (hb : Binds X.K fd ps [])
    (I : Inv X pins σ H s) (r : Vals vs us)
    (h : ∀ x dx, H x = none → H dx = none → dx ≠ x → sp (.ref x :: vs) (upd (upd H dx (.own x)) x (.ins C dx [])) (fun v H2 => v = .non ∧ Q (.ref x) H2) E0) :
    wpAny (model X.prog X.w) X.A (call (.ref C) us) (EP X pins σ Q) X.xe s := by
  have hq := h (s.heap.objs.size + 1) s.heap.objs.size (I.hok.fresh (Nat.le_succ _)) (I.hok.fresh (Nat.le_refl _)) (Nat.ne_of_lt (Nat.lt_succ_self _))
  have I2 := Inv.made (C := C) I
  have r2 : Vals (V.ref (s.heap.objs.size + 1) :: vs) (Value.ref (s.heap.objs.size + 1) :: us) := .cons rfl r
  have hl : (Value.ref (s.heap.objs.size + 1) :: us).length = ps.length := by
    rw [← r2.length]
    exact F.arity _ _ _ _ hq
  have b := hb { s with heap := _ } (Value.ref (s.heap.objs.size + 1) :: us) I2.kIn (by rw [List.append_nil]; exact hl)
  rw [List.append_nil] at b
  refine wpAny_call (make_map (f := f) I.kIn M.makes M.init (beq_iff_eq.mp M.fn) (codeAny_mono (F.go (hr.make C us []) (I2.env0.make C us []) b r2 hq) fun r s' hq' => ?_))
  cases r with
  | error e => exact hq'.elim
  | ok fl =>
    match fl, hq' with
    | .ret u, hq' =>
      obtain ⟨v, H', I3, rv, ev, q3⟩ := I2.after hq'
      subst ev
      exact ⟨rv, ⟨V.ref (s.heap.objs.size + 1), H', I3, rfl, q3⟩⟩
theorem pe_mkG (D : DnI X.prog X.w X.K X.mg X.base C k ps sp) (hr : RoomG (k + 1) X.A) (hg : Gl X x) (hm : X.mg x = some (.ref C)) (ha : PA X (e :: es) t) (hdb : (x == ("__debug__" : Str)) = false := by decide)
    (he : starEach (e :: es) X.env = (false, eval e X.env) :: starEach es X.env := by rfl) (hpl : (backTo pos (starEach es X.env)).any (·.1) = false := by rfl) :
    PE X (.Call (.Name x p) (e :: es) [] pos) (tMake C sp [] E0 t) := by
  obtain ⟨f, fd, F, M, hb⟩ := D.ex
  refine ⟨fun pins s σ H Q I h => ?_⟩
  refine wpAny_Call_Name_kw (ld_glob I hg hm ?_ hdb)
  refine PySem.W.callWith_K (h₀ := X.base) I.ok.mod.kin M.kp (thn (ha.run pos pins s σ H _ I h) fun us s1 ⟨vs, H1, I1, r, q⟩ => ⟨I1.kIn, ?_⟩) he hpl
  exact run_mkG M F hr hb I1 r fun x dx h1 h2 h3 => by
    have z := q x dx h1 h2 h3
    rw [List.append_nil] at z
    exact z
/-- o.f, as a target -/
def gFld (K : PySem.W.Frag) (to : TE) (f : Str) : TG := fun v σ H Q => to σ H fun x H1 => ∃ a C dx fs, x = .ref a ∧ H1 a = some (.ins C dx fs) ∧ Cls K C ∧ NoAttr K C f ∧ fs.length < 1000 ∧ Q σ (upd H1 a (.ins C dx (putF f v fs)))
theorem pg_fld {f : Str} {to : TE} (ho : PE X o to) : PG X (.Attribute o f pos) (gFld X.K to f) := by
  refine ⟨fun pins s σ H v u Q I r h => ?_⟩
  rw [assign_Attribute]
  refine wpAny_bind (wpAny_holding (thn (ho.run pins s σ H _ I h) fun ov s1 ⟨x, H1, I1, rx, a, C, dx, fs, ex, ea, c, n, l, q⟩ => ?_))
  subst ex
  obtain rfl : ov = Value.ref a := rx
  refine wpAny_bind (wpAny_standAt ?_)
  refine wpAny_bind (wpAny_holding (setattr_ok I1 ea c n l r fun s2 I2 => ?_))
  exact wpAny_release ⟨σ, _, I2, q⟩
end
end Toy
namespace Toy
open PySem PySem.Spec PyProof.Rows L2
theorem hp_same {H H' : Hp} {a : Addr} {o : HO} (s : Same H H') (h : H a = some o) : H' a = some o := s _ _ h
theorem hp_at {H H' : Hp} {a : Addr} {o : HO} (h : H a = some o) (s : Same H H') : H' a = some o := s _ _ h
theorem sql_at {K : PySem.W.Frag} {H H' : Hp} {p : Addr} {xs : List V} (h : SqL K H p xs) (s : Same H H') : SqL K H' p xs := s.seq h
theorem sqt_at {K : PySem.W.Frag} {H H' : Hp} {a : Addr} {xs : List V} (h : SqT K H a xs) (s : Same H H') : SqT K H' a xs := same_tup s h
theorem same_bk {H M H' : Hp} (b : Same M H') (a : Same H M) : Same H H' := a.trans b
theorem hp_new {H : Hp} {l a : Addr} {o u : HO} (n : H l = none) (h : H a = some o) : upd H l u a = some o := same_new n u _ _ h
theorem s1k : 1000 ≤ sizeLine := by decide
theorem lk1000 {n : Nat} (h : n ≤ 1000) : n ≤ sizeLine := Nat.le_trans h s1k
theorem lt1000 {n : Nat} (h : n < 1000) : n < sizeLine := Nat.lt_of_lt_of_le h s1k
theorem tyL {K : PySem.W.Frag} {H : Hp} {p : Addr} {xs : List V} (h : H p = some (.lst xs)) : tyV K "list" (.ref p) H := .inl ⟨rfl, xs, SqL.of h⟩
theorem sq_same {K : PySem.W.Frag} {H H' : Hp} {p : Addr} {xs : List V} (s : Same H H') (h : SqL K H p xs) : SqL K H' p xs := s.seq h
theorem newS {H H' : Hp} {l : Addr} {o : HO} (e : upd H l o = H') (n : H l = none) : Same H H' := e ▸ same_new n o
theorem newO {H H' : Hp} {l : Addr} {o : HO} (e : upd H l o = H') : H' l = some o := e ▸ upd_same
end Toy
namespace Toy
open PySem PySem.Spec PyProof.Rows L2
/-! ### what may raise -/
section
variable {X : Cx} {k : Nat} {ps : List Str} {sp : Sp} {x : Str} {p pos : Pos} {e : Expr} {es : List Expr} {t : TA} {W : WX}
theorem cx_no {outer : List Env} {H : Hp} {s : Shared} {e : Value} {s' : Shared} {P : Program} {w : World} (h : L2.CX P w outer H s E0 e s') : False := by
  obtain ⟨_, _, _, _, _, _, _, _, _, _, _, _, z⟩ := h
  exact z.elim
/-- a call that may raise; W takes what is raised -/
theorem pe_cW (D : Dx X.prog X.w X.K X.mg X.base k x ps sp) (hr : RoomG k X.A) (tk : Takes X W) (hg : Gl X x) (ha : PA X (e :: es) t) (hdb : (x == ("__debug__" : Str)) = false := by decide)
    (he : starEach (e :: es) X.env = (false, eval e X.env) :: starEach es X.env := by rfl) (hpl : (backTo pos (starEach es X.env)).any (·.1) = false := by rfl) : PE X (.Call (.Name x p) (e :: es) [] pos) (tCallS sp (WE W) t) := by
  obtain ⟨f, fd, F, hk, hm, hb⟩ := D.ex
  exact ⟨fun pins s σ H Q I h => wpAny_Call_Name_kw (ld_glob I hg hm (PySem.W.callWith_K (h₀ := X.base) I.ok.mod.kin hk (thn (ha.run pos pins s σ H _ I h) fun us s1 ⟨vs, H1, I1, r, q⟩ => ⟨I1.kIn, run_G F hr hb (fun e s' c => passAt tk σ pins H1 s1 e s' I1 c) I1 r q⟩) he hpl) hdb)⟩
theorem pe_cW0 (D : Dx X.prog X.w X.K X.mg X.base k x ps sp) (hr : RoomG k X.A) (tk : Takes X W) (hg : Gl X x) (hdb : (x == ("__debug__" : Str)) = false := by decide) : PE X (.Call (.Name x p) [] [] pos) (tCallS sp (WE W) tNil) := by
  obtain ⟨f, fd, F, hk, hm, hb⟩ := D.ex
  exact ⟨fun pins s σ H Q I h => wpAny_Call_Name_kw (ld_glob I hg hm (PySem.W.callWith_K0 I.kIn hk (run_G (us := []) F hr hb (fun e s' c => passAt tk σ pins H s e s' I c) I .nil h)) hdb)⟩
/-- .. that does not raise here -/
theorem pe_cXn (D : Dx X.prog X.w X.K X.mg X.base k x ps sp) (hr : RoomG k X.A) (hg : Gl X x) (ha : PA X (e :: es) t) (hdb : (x == ("__debug__" : Str)) = false := by decide)
    (he : starEach (e :: es) X.env = (false, eval e X.env) :: starEach es X.env := by rfl) (hpl : (backTo pos (starEach es X.env)).any (·.1) = false := by rfl) : PE X (.Call (.Name x p) (e :: es) [] pos) (tCall sp [] E0 t) := by
  obtain ⟨f, fd, F, hk, hm, hb⟩ := D.ex
  refine ⟨fun pins s σ H Q I h => wpAny_Call_Name_kw (ld_glob I hg hm (PySem.W.callWith_K (h₀ := X.base) I.ok.mod.kin hk (thn (ha.run pos pins s σ H _ I h) fun us s1 ⟨vs, H1, I1, r, q⟩ => ⟨I1.kIn, ?_⟩) he hpl) hdb)⟩
  have q' : sp vs H1 Q E0 := by
    have z : sp (vs ++ []) H1 Q E0 := q
    rw [List.append_nil] at z
    exact z
  exact run_G F hr hb (fun _ _ z => (cx_no z).elim) I1 r q'
/-- a def with defaults that may raise -/
structure DxD (P : Program) (w : World) (K : PySem.W.Frag) (mg : Str → Option Value) (base : Heap) (k : Nat) (x : Str) (ps : List Str) (dvs : List V) (sp : Sp) : Prop where
  ex : ∃ (f : Addr) (fd : FuncData) (ds : List Value), FnG P w K mg base (L2.CX P w) k f fd ps sp ∧ PySem.W.keepIn K (.ref f) = true ∧ mg x = some (.ref f) ∧ Binds K fd ps ds ∧ Vals dvs ds
theorem Dfd.okX {P : Program} {w : World} {K : PySem.W.Frag} {mg : Str → Option Value} {base : Heap} {x : Str} {st : Stmt} {dvs : List V} (D : Dfd K mg x st ps dvs)
    (h : ∀ f fd, FunA K x x st f fd → FnG P w K mg base (L2.CX P w) k f fd ps sp) : DxD P w K mg base k x ps dvs sp := by
  obtain ⟨f, fd, ds, F, kp, m, b, d⟩ := D.ex
  exact ⟨f, fd, ds, h f fd F, kp, m, b, d⟩
theorem pe_cXd {dvs : List V} (D : DxD X.prog X.w X.K X.mg X.base k x ps dvs sp) (hr : RoomG k X.A) (tk : Takes X W) (hg : Gl X x) (ha : PA X (e :: es) t) (hdb : (x == ("__debug__" : Str)) = false := by decide)
    (he : starEach (e :: es) X.env = (false, eval e X.env) :: starEach es X.env := by rfl) (hpl : (backTo pos (starEach es X.env)).any (·.1) = false := by rfl) : PE X (.Call (.Name x p) (e :: es) [] pos) (fun σ H Q => t σ H fun vs H1 => sp (vs ++ dvs) H1 Q (WE W σ)) := by
  obtain ⟨f, fd, ds, F, hk, hm, hb, hd⟩ := D.ex
  exact ⟨fun pins s σ H Q I h => wpAny_Call_Name_kw (ld_glob I hg hm (PySem.W.callWith_K (h₀ := X.base) I.ok.mod.kin hk (thn (ha.run pos pins s σ H _ I h) fun us s1 ⟨vs, H1, I1, r, q⟩ => ⟨I1.kIn, run_Gd F hr hb hd (fun e s' c => passAt tk σ pins H1 s1 e s' I1 c) I1 r q⟩) he hpl) hdb)⟩
theorem pe_cXdn {dvs : List V} (D : DxD X.prog X.w X.K X.mg X.base k x ps dvs sp) (hr : RoomG k X.A) (hg : Gl X x) (ha : PA X (e :: es) t) (hdb : (x == ("__debug__" : Str)) = false := by decide)
    (he : starEach (e :: es) X.env = (false, eval e X.env) :: starEach es X.env := by rfl) (hpl : (backTo pos (starEach es X.env)).any (·.1) = false := by rfl) : PE X (.Call (.Name x p) (e :: es) [] pos) (tCall sp dvs E0 t) := by
  obtain ⟨f, fd, ds, F, hk, hm, hb, hd⟩ := D.ex
  exact ⟨fun pins s σ H Q I h => wpAny_Call_Name_kw (ld_glob I hg hm (PySem.W.callWith_K (h₀ := X.base) I.ok.mod.kin hk (thn (ha.run pos pins s σ H _ I h) fun us s1 ⟨vs, H1, I1, r, q⟩ => ⟨I1.kIn, run_Gd F hr hb hd (fun _ _ z => (cx_no z).elim) I1 r q⟩) he hpl) hdb)⟩
/-- a method that may raise -/
structure DxM (P : Program) (w : World) (K : PySem.W.Frag) (mg : Str → Option Value) (base : Heap) (C : Addr) (k : Nat) (m : Str) (ps : List Str) (sp : Sp) : Prop where
  ex : ∃ f fd, FnG P w K mg base (L2.CX P w) k f fd ps sp ∧ Meth K C m f ∧ Binds K fd ps []
theorem DfM.okX {P : Program} {w : World} {K : PySem.W.Frag} {mg : Str → Option Value} {base : Heap} {C : Addr} {m q : Str} {st : Stmt} (D : DfM K C m q st ps)
    (h : ∀ f fd, Fun K m q st f fd → FnG P w K mg base (L2.CX P w) k f fd ps sp) : DxM P w K mg base C k m ps sp := by
  obtain ⟨f, fd, F, mt, b⟩ := D.ex
  exact ⟨f, fd, h f fd F, mt, b⟩
variable {m : Str} {apos : Pos} {o : Expr} {ta : TE} {C : Addr}
def tMethX (C : Addr) (m : Str) (sp : Sp) (W : WX) (ta : TE) (t : TA) : TE := fun σ H Q => ta σ H fun x H1 => ∃ a dx fs, x = .ref a ∧ H1 a = some (.ins C dx fs) ∧ fs.lookup m = none ∧ t σ H1 fun vs H2 => sp (x :: vs) H2 Q (WE W σ)
theorem pe_mX {pl : Sem Bool} (D : DxM X.prog X.w X.K X.mg X.base C k m ps sp) (c : Cls X.K C) (hr : RoomG k X.A) (tk : Takes X W) (he : PE X o ta) (ha : PA X (e :: es) t)
    (hst : starEach (e :: es) X.env = (false, eval e X.env) :: starEach es X.env := by rfl) (hpl : (backTo pos (starEach es X.env)).any (·.1) = false := by rfl)
    (ht : eval (.Call (.Attribute o m apos) (e :: es) [] pos) X.env = (do
      let ov ← eval o X.env
      standAt apos.atName
      let (f, first) ← holding [ov] (getMethod ov m pl)
      callWith pos f first (backTo pos (starEach (e :: es) X.env)) (backToKw pos (keywordEach [] X.env))) := by rfl) :
    PE X (.Call (.Attribute o m apos) (e :: es) [] pos) (tMethX C m sp W ta t) := by
  obtain ⟨f, fd, F, hm, hb⟩ := D.ex
  refine ⟨fun pins s σ H Q I h => ?_⟩
  refine PySem.W.methodCall_KW (pl := pl) (thn (he.run pins s σ H _ I h) fun u s1 ⟨x, H1, I1, rx, a, dx, fs, ex, ea, l, q⟩ => ?_) ht
  subst ex
  obtain rfl : u = Value.ref a := rx
  refine getmeth_ok I1 ea c hm l ?_
  refine PySem.W.callWith_K (first := [.ref a]) (h₀ := X.base) I.ok.mod.kin hm.kp (thn (ha.run pos pins s1 σ H1 _ I1 q) fun us s2 ⟨vs, H2, I2, r, q2⟩ => ⟨I2.kIn, ?_⟩) hst hpl
  exact run_G (us := .ref a :: us) (vs := .ref a :: vs) F hr hb (fun e s' c => passAt tk σ pins H2 s2 e s' I2 c) I2 (.cons rfl r) q2
theorem pe_mXn {pl : Sem Bool} (D : DxM X.prog X.w X.K X.mg X.base C k m ps sp) (c : Cls X.K C) (hr : RoomG k X.A) (he : PE X o ta) (ha : PA X (e :: es) t)
    (hst : starEach (e :: es) X.env = (false, eval e X.env) :: starEach es X.env := by rfl) (hpl : (backTo pos (starEach es X.env)).any (·.1) = false := by rfl)
    (ht : eval (.Call (.Attribute o m apos) (e :: es) [] pos) X.env = (do
      let ov ← eval o X.env
      standAt apos.atName
      let (f, first) ← holding [ov] (getMethod ov m pl)
      callWith pos f first (backTo pos (starEach (e :: es) X.env)) (backToKw pos (keywordEach [] X.env))) := by rfl) :
    PE X (.Call (.Attribute o m apos) (e :: es) [] pos) (tMeth C m sp [] E0 ta t) := by
  obtain ⟨f, fd, F, hm, hb⟩ := D.ex
  refine ⟨fun pins s σ H Q I h => ?_⟩
  refine PySem.W.methodCall_KW (pl := pl) (thn (he.run pins s σ H _ I h) fun u s1 ⟨x, H1, I1, rx, a, dx, fs, ex, ea, l, q⟩ => ?_) ht
  subst ex
  obtain rfl : u = Value.ref a := rx
  refine getmeth_ok I1 ea c hm l ?_
  refine PySem.W.callWith_K (first := [.ref a]) (h₀ := X.base) I.ok.mod.kin hm.kp (thn (ha.run pos pins s1 σ H1 _ I1 q) fun us s2 ⟨vs, H2, I2, r, q2⟩ => ⟨I2.kIn, ?_⟩) hst hpl
  have q' : sp (.ref a :: vs) H2 Q E0 := by
    have z : sp (.ref a :: (vs ++ [])) H2 Q E0 := q2
    rw [List.append_nil] at z
    exact z
  exact run_G (us := .ref a :: us) (vs := .ref a :: vs) F hr hb (fun _ _ z => (cx_no z).elim) I2 (.cons rfl r) q'
/-- a maker that may raise -/
structure DxI (P : Program) (w : World) (K : PySem.W.Frag) (mg : Str → Option Value) (base : Heap) (C : Addr) (k : Nat) (ps : List Str) (sp : Sp) : Prop where
  ex : ∃ f fd, FnG P w K mg base (L2.CX P w) k f fd ps sp ∧ Mk K C f ∧ Binds K fd ps []
theorem DfI.okX {P : Program} {w : World} {K : PySem.W.Frag} {mg : Str → Option Value} {base : Heap} {C : Addr} {q : Str} {st : Stmt} (D : DfI K C q st ps)
    (h : ∀ f fd, Fun K "__init__" q st f fd → FnG P w K mg base (L2.CX P w) k f fd ps sp) : DxI P w K mg base C k ps sp := by
  obtain ⟨f, fd, F, mt, b⟩ := D.ex
  exact ⟨f, fd, h f fd F, mt, b⟩
theorem run_mkX {pins : List (Addr × Obj)} {σ : L2.St} {H : Hp} {s : Shared} {Q : VK} {E : XK} {us : List Value} {vs : List V} {f : Addr} {fd : FuncData} (M : Mk X.K C f) (F : FnG X.prog X.w X.K X.mg X.base (L2.CX X.prog X.w) k f fd ps sp) (hr : RoomG (k + 1) X.A) (hb : Binds X.K fd ps [])
    (out : ∀ (H2 : Hp) (s2 : Shared) e s', Inv X pins σ H2 s2 → L2.CX X.prog X.w X.stack H2 s2 E e s' → X.xe e s') (I : Inv X pins σ H s) (r : Vals vs us)
    (h : ∀ x dx, H x = none → H dx = none → dx ≠ x → sp (.ref x :: vs) (upd (upd H dx (.own x)) x (.ins C dx [])) (fun v H2 => v = .non ∧ Q (.ref x) H2) E) :
    wpAny (model X.prog X.w) X.A (call (.ref C) us) (EP X pins σ Q) X.xe s := by
  have hq := h (s.heap.objs.size + 1) s.heap.objs.size (I.hok.fresh (Nat.le_succ _)) (I.hok.fresh (Nat.le_refl _)) (Nat.ne_of_lt (Nat.lt_succ_self _))
  have I2 := Inv.made (C := C) I
  have r2 : Vals (V.ref (s.heap.objs.size + 1) :: vs) (Value.ref (s.heap.objs.size + 1) :: us) := .cons rfl r
  have hl : (Value.ref (s.heap.objs.size + 1) :: us).length = ps.length := by
    rw [← r2.length]
    exact F.arity _ _ _ _ hq
  have b := hb { s with heap := _ } (Value.ref (s.heap.objs.size + 1) :: us) I2.kIn (by rw [List.append_nil]; exact hl)
  rw [List.append_nil] at b
  refine wpAny_call (make_map (f := f) I.kIn M.makes M.init (beq_iff_eq.mp M.fn) (codeAny_mono (F.go (hr.make C us []) (I2.env0.make C us []) b r2 hq) fun r s' hq' => ?_))
  cases r with
  | error e => exact out _ _ e s' I2 hq'
  | ok fl =>
    match fl, hq' with
    | .ret u, hq' =>
      obtain ⟨v, H', I3, rv, ev, q3⟩ := I2.after hq'
      subst ev
      exact ⟨rv, ⟨V.ref (s.heap.objs.size + 1), H', I3, rfl, q3⟩⟩
def tMakeX (C : Addr) (sp : Sp) (W : WX) (t : TA) : TE := fun σ H Q => t σ H fun vs H1 => ∀ x dx, H1 x = none → H1 dx = none → dx ≠ x → sp (.ref x :: vs) (upd (upd H1 dx (.own x)) x (.ins C dx [])) (fun v H2 => v = .non ∧ Q (.ref x) H2) (WE W σ)
theorem pe_mkX (D : DxI X.prog X.w X.K X.mg X.base C k ps sp) (hr : RoomG (k + 1) X.A) (tk : Takes X W) (hg : Gl X x) (hm : X.mg x = some (.ref C)) (ha : PA X (e :: es) t) (hdb : (x == ("__debug__" : Str)) = false := by decide)
    (he : starEach (e :: es) X.env = (false, eval e X.env) :: starEach es X.env := by rfl) (hpl : (backTo pos (starEach es X.env)).any (·.1) = false := by rfl) :
    PE X (.Call (.Name x p) (e :: es) [] pos) (tMakeX C sp W t) := by
  obtain ⟨f, fd, F, M, hb⟩ := D.ex
  refine ⟨fun pins s σ H Q I h => ?_⟩
  refine wpAny_Call_Name_kw (ld_glob I hg hm ?_ hdb)
  refine PySem.W.callWith_K (h₀ := X.base) I.ok.mod.kin M.kp (thn (ha.run pos pins s σ H _ I h) fun us s1 ⟨vs, H1, I1, r, q⟩ => ⟨I1.kIn, ?_⟩) he hpl
  exact run_mkX M F hr hb (fun H2 s2 e s' I2 c => passAt tk σ pins H2 s2 e s' I2 c) I1 r q
theorem pe_mkXn (D : DxI X.prog X.w X.K X.mg X.base C k ps sp) (hr : RoomG (k + 1) X.A) (hg : Gl X x) (hm : X.mg x = some (.ref C)) (ha : PA X (e :: es) t) (hdb : (x == ("__debug__" : Str)) = false := by decide)
    (he : starEach (e :: es) X.env = (false, eval e X.env) :: starEach es X.env := by rfl) (hpl : (backTo pos (starEach es X.env)).any (·.1) = false := by rfl) :
    PE X (.Call (.Name x p) (e :: es) [] pos) (tMake C sp [] E0 t) := by
  obtain ⟨f, fd, F, M, hb⟩ := D.ex
  refine ⟨fun pins s σ H Q I h => ?_⟩
  refine wpAny_Call_Name_kw (ld_glob I hg hm ?_ hdb)
  refine PySem.W.callWith_K (h₀ := X.base) I.ok.mod.kin M.kp (thn (ha.run pos pins s σ H _ I h) fun us s1 ⟨vs, H1, I1, r, q⟩ => ⟨I1.kIn, ?_⟩) he hpl
  exact run_mkX M F hr hb (fun _ _ _ _ _ c => (cx_no c).elim) I1 r fun x dx h1 h2 h3 => by
    have z := q x dx h1 h2 h3
    rw [List.append_nil] at z
    exact z
end
/-- bodies that may raise -/
theorem okGX {P : Program} {w : World} {K : PySem.W.Frag} {mg : Str → Option Value} {base : Heap} {x qual : Str} {st : Stmt} {f : Addr} {fd : FuncData} {N ps : List Str} {k : Nat} {sp : Sp} (F : Fun K x qual st f fd) (S : FnScope N ps (defScope st)) (ar : ∀ vs H Q E, sp vs H Q E → vs.length = ps.length)
    (body : ∀ (cdv : Value) (A : Around) (outer : List Env) (s : Shared) (H : Hp) (vs : List V) (Q : VK) (E : XK), RoomG k (A.deeper (envOfC qual (defScope st) s.heap.objs.size f cdv)) → sp vs H Q E →
      ∃ t, PSs (cxOf (L2.CX P w) P w K mg base N qual (defScope st) f cdv A outer s H E) (defBody st) t ∧ t { nx := fun _ H' => Q .non H', rt := Q } (start N vs) H) : FnG P w K mg base (L2.CX P w) (k + 1) f fd ps sp :=
  okGA (toA F) S ar body
/-- a class of errors -/
structure ExcF (K : PySem.W.Frag) (mg : Str → Option Value) (x : Str) : Prop where
  mg_ : mg x = some (.ref (cAt mg x))
  ex : PySem.W.excIn K (cAt mg x) [.type "ValueError", .type "Exception", .type "BaseException", .type "object"] "ValueError.__new__" = true
  kp : PySem.W.keepIn K (.ref (cAt mg x)) = true
  bs : PySem.W.subIn K (.ref (cAt mg x)) (.type "BaseException") = some true
  tp : PySem.W.typeIn K (.ref (cAt mg x)) = some (.type "type")
  is : PySem.W.isClsIn K (cAt mg x) = true
theorem ExcF.of {K : PySem.W.Frag} {mg : Str → Option Value} {x : Str} {C : Addr} (m : mg x = some (.ref C)) (h1 : PySem.W.excIn K C [.type "ValueError", .type "Exception", .type "BaseException", .type "object"] "ValueError.__new__" = true) (h2 : PySem.W.keepIn K (.ref C) = true)
    (h3 : PySem.W.subIn K (.ref C) (.type "BaseException") = some true) (h4 : PySem.W.typeIn K (.ref C) = some (.type "type")) (h5 : PySem.W.isClsIn K C = true) : ExcF K mg x := by
  have e := cAt_eq m
  exact ⟨by rw [e]; exact m, by rw [e]; exact h1, by rw [e]; exact h2, by rw [e]; exact h3, by rw [e]; exact h4, by rw [e]; exact h5⟩
/-- one class stands under another one, or does not -/
def SubF (K : PySem.W.Frag) (mg : Str → Option Value) (x y : Str) (b : Bool) : Prop := PySem.W.subIn K (.ref (cAt mg x)) (.ref (cAt mg y)) = some b
theorem SubF.of {K : PySem.W.Frag} {mg : Str → Option Value} {x y : Str} {C D : Addr} {b : Bool} (m : mg x = some (.ref C)) (m' : mg y = some (.ref D)) (h : PySem.W.subIn K (.ref C) (.ref D) = some b) : SubF K mg x y b := by
  unfold SubF
  rw [cAt_eq m, cAt_eq m']
  exact h
/-- what an except clause asks -/
theorem exm_of {K : PySem.W.Frag} {mg : Str → Option Value} {x y : Str} {b : Bool} (Y : ExcF K mg y) (h : SubF K mg x y b) : PySem.W.exmOne K (.ref (cAt mg x)) (.ref (cAt mg y)) = some b := by
  have e1 : (PySem.W.subIn K (.ref (cAt mg y)) (.type "BaseException") == some true) = true := by rw [Y.bs] <;> rfl
  have e2 : ((PySem.W.clsIn K (cAt mg y)).isSome && PySem.W.typeIn K (.ref (cAt mg y)) == some (.type "type")) = true := by
    have h2' : (PySem.W.clsIn K (cAt mg y)).isSome = true := Y.is
    rw [h2', Y.tp] <;> rfl
  show (if (PySem.W.subIn K (.ref (cAt mg y)) (.type "BaseException") == some true) = true then (if ((PySem.W.clsIn K (cAt mg y)).isSome && PySem.W.typeIn K (.ref (cAt mg y)) == some (.type "type")) = true then PySem.W.subIn K (.ref (cAt mg x)) (.ref (cAt mg y)) else none) else none) = some b
  rw [if_pos e1, if_pos e2]
  exact h
end Toy
namespace Toy
open PySem PySem.Spec PyProof.Rows L2
/-! ### isinstance of a caught error -/
def rIsX (K : PySem.W.Frag) (cls : Value) (d : Option Addr) (a : Addr) : List V → Hp → VK → Prop := fun xs H Q => ∃ (D : Addr) (c : V) (cv : Value) (b : Bool), xs = [.ref a, c] ∧ cls = .ref D ∧ d = none ∧ ExcC K D ∧ ClsV c cv ∧ PySem.W.kitOne K (.ref D) cv = some b ∧ Q (.bl b) H
theorem call_isX {X : Cx} {a : Addr} {cls : Value} {d : Option Addr} {oe : Obj} {pn : List (Addr × Obj)} (hz : Zc cls d oe) (hf : ∃ vs, oe.data = .fields vs) : CallR (X.suite a ((a, oe) :: pn)) (.builtin "isinstance") (rIsX X.K cls d a) := by
  intro pins s σ H xs us Q I r h
  obtain ⟨D, c, cv, b, rfl, rfl, rfl, C, hc, e, q⟩ := h
  exact call_isE C hz hf pins s σ H _ us Q I r ⟨c, cv, b, rfl, fun u ru => hc.eq ru, e, q⟩
/-- .. with a tuple of classes -/
def rIsXT (K : PySem.W.Frag) (cls : Value) (d : Option Addr) (a : Addr) : List V → Hp → VK → Prop := fun xs H Q => ∃ (D tp : Addr) (cs : List V) (us : List Value) (b : Bool), xs = [.ref a, .ref tp] ∧ cls = .ref D ∧ d = none ∧ ExcC K D ∧ H tp = some (.tup cs) ∧ Paired ClsV cs us ∧ PySem.W.kitAny K (.ref D) us = some b ∧ Q (.bl b) H
theorem call_isXT {X : Cx} {a : Addr} {cls : Value} {d : Option Addr} {oe : Obj} {pn : List (Addr × Obj)} (hz : Zc cls d oe) (hf : ∃ vs, oe.data = .fields vs) : CallR (X.suite a ((a, oe) :: pn)) (.builtin "isinstance") (rIsXT X.K cls d a) := by
  intro pins s σ H xs us Q I r h
  obtain ⟨D, tp, cs, ws, b, rfl, rfl, rfl, C, hT, k, e, q⟩ := h
  obtain ⟨u1, u2, rfl, r1, r2⟩ := vals2 r
  cases (show u1 = Value.ref a from r1)
  cases (show u2 = Value.ref tp from r2)
  obtain ⟨hget, _⟩ := I.pin (a, oe) (List.mem_append.mpr (.inl List.mem_cons_self))
  obtain ⟨vs, hv⟩ := hf
  have J : PySem.W.InstAt s.heap a oe D none := by
    obtain ⟨oc, od, oda, osl⟩ := oe
    obtain ⟨h1, h2⟩ := hz
    dsimp only at h1 h2 hv
    subst h1 h2 hv
    exact ⟨hget, rfl, rfl, trivial⟩
  obtain ⟨_, its, rv, o, h1, h2, n, h3⟩ := (show ObjOk (X.suite a ((a, oe) :: pn)).prog (X.suite a ((a, oe) :: pn)).w H s.heap tp (.tup cs) from I.hok tp _ hT)
  have e3 := ClsV.all k rv
  subst e3
  obtain ⟨oc, od, dt, sl⟩ := o
  simp only at h2 h3
  subst h2 h3
  exact PySem.W.kia_tup (PySem.W.handS_kitx_exc C.hg C.hk C.hs C.hd C.ha C.hn C.ht C.hm) I.kIn J h1 e (fun z => nomatch z) fun tk => ⟨.bl b, H, I.kept (t' := tk) fun _ _ z => z, rfl, q⟩
/-- one class, asked by isinstance -/
theorem kitO {K : PySem.W.Frag} {mg : Str → Option Value} {x y : Str} {b : Bool} (Y : ExcF K mg y) (hx : SubF K mg x x true) (h : SubF K mg x y b) : PySem.W.kitOne K (.ref (cAt mg x)) (.ref (cAt mg y)) = some b := by
  unfold PySem.W.kitOne
  by_cases e : (Value.ref (cAt mg x) == Value.ref (cAt mg y)) = true
  · rw [if_pos e]
    have e' : cAt mg x = cAt mg y := Value.ref.inj (beq_iff_eq.mp e)
    unfold SubF at h hx
    rw [← e', hx] at h
    exact h
  · rw [if_neg e]
    have e2 : ((PySem.W.clsIn K (cAt mg y)).isSome && PySem.W.typeIn K (.ref (cAt mg y)) == some (.type "type")) = true := by
      have h2' : (PySem.W.clsIn K (cAt mg y)).isSome = true := Y.is
      rw [h2', Y.tp] <;> rfl
    show (if ((PySem.W.clsIn K (cAt mg y)).isSome && PySem.W.typeIn K (.ref (cAt mg y)) == some (.type "type")) = true then PySem.W.subIn K (.ref (cAt mg x)) (.ref (cAt mg y)) else none) = some b
    rw [if_pos e2]
    exact h
structure ExcI (K : PySem.W.Frag) (mg : Str → Option Value) (x : Str) : Prop where
  c : ExcC K (cAt mg x)
  ve : PySem.W.subIn K (.ref (cAt mg x)) (.type "ValueError") = some true
theorem ExcI.of {K : PySem.W.Frag} {mg : Str → Option Value} {x : Str} {C : Addr} (m : mg x = some (.ref C)) (h : ExcC K C) (v : PySem.W.subIn K (.ref C) (.type "ValueError") = some true) : ExcI K mg x := by
  have e := cAt_eq m
  exact ⟨by rw [e]; exact h, by rw [e]; exact v⟩
theorem kitVE {K : PySem.W.Frag} {mg : Str → Option Value} {x : Str} (h : ExcI K mg x) : PySem.W.kitOne K (.ref (cAt mg x)) (.type "ValueError") = some true := by
  unfold PySem.W.kitOne
  have e : ¬ (Value.ref (cAt mg x) == Value.type "ValueError") = true := fun z => by cases (beq_iff_eq.mp z)
  rw [if_neg e]
  show (if PySem.W.kitMeta "ValueError" = true then PySem.W.subIn K (.ref (cAt mg x)) (.type "ValueError") else none) = some true
  rw [if_pos (by decide +kernel)]
  exact h.ve
end Toy
namespace Toy
open PySem PySem.Spec PyProof.Rows L2
theorem kitAnyF {K : PySem.W.Frag} {mg : Str → Option Value} {t : Value} : ∀ {ys : List Str}, (∀ y ∈ ys, PySem.W.kitOne K t (.ref (cAt mg y)) = some false) → PySem.W.kitAny K t (ys.map fun y => Value.ref (cAt mg y)) = some false
  | [], _ => kitAny_nil
  | y :: ys, h => kitAny_cons (h y List.mem_cons_self) (fun _ => kitAnyF fun z hz => h z (List.mem_cons_of_mem _ hz)) (fun z => by cases z)
theorem pairOwn {mg : Str → Option Value} : ∀ ys : List Str, Paired ClsV (ys.map fun y => V.ref (cAt mg y)) (ys.map fun y => Value.ref (cAt mg y))
  | [] => .nil
  | y :: ys => .cons (.own _) (pairOwn ys)
end Toy
namespace Toy
open PySem PySem.Spec PyProof.Rows L2
section
variable {X : Cx} {i k1 k2 : Nat} {x : Str} {p pos : Pos} {e : Expr} {es : List Expr} {t : TA} {W : WX}
/-- a local that holds one of two defs, called; both may raise -/
def tCvW (i : Nat) (f1 f2 : Addr) (sp1 sp2 : Sp) (W : WX) (t : TA) : TE := fun σ H Q =>
  (σ[i]? = some (some (.ref f1)) ∧ t σ H fun vs H1 => sp1 vs H1 Q (WE W σ)) ∨ (σ[i]? = some (some (.ref f2)) ∧ t σ H fun vs H1 => sp2 vs H1 Q (WE W σ))
theorem Dx.mg {P : Program} {w : World} {K : PySem.W.Frag} {mg : Str → Option Value} {base : Heap} {k : Nat} {x : Str} {ps : List Str} {sp : Sp} (D : Dx P w K mg base k x ps sp) : mg x = some (.ref (cAt mg x)) := by
  obtain ⟨f, fd, F, hk, hm, hb⟩ := D.ex
  rw [cAt_eq hm]
  exact hm
theorem pe_cvW {mg : Str → Option Value} {x1 x2 : Str} {ps1 ps2 : List Str} {sp1 sp2 : Sp} (D1 : Dx X.prog X.w X.K mg X.base k1 x1 ps1 sp1) (D2 : Dx X.prog X.w X.K mg X.base k2 x2 ps2 sp2) (r1 : RoomG k1 X.A) (r2 : RoomG k2 X.A) (tk : Takes X W) (ha : PA X (e :: es) t)
    (hN : X.N[i]? = some x := by rfl) (hv : Vis X.env.scope x := by first | exact Or.inl rfl | exact Or.inr (Or.inl rfl) | exact Or.inr (Or.inr rfl)) (hd : (x == ("__debug__" : Str)) = false := by decide) (hcd : (x == ("__classdict__" : Str)) = false := by decide)
    (he : starEach (e :: es) X.env = (false, eval e X.env) :: starEach es X.env := by rfl) (hpl : (backTo pos (starEach es X.env)).any (·.1) = false := by rfl) (em : mg = X.mg := by rfl) :
    PE X (.Call (.Name x p) (e :: es) [] pos) (tCvW i (cAt mg x1) (cAt mg x2) sp1 sp2 W t) := by
  subst em
  have one : ∀ {k : Nat} {y : Str} {ps : List Str} {sp : Sp} (pins : List (Addr × Obj)) (s : Shared) (σ : L2.St) (H : Hp) (Q : VK), Dx X.prog X.w X.K X.mg X.base k y ps sp → RoomG k X.A → Inv X pins σ H s → σ[i]? = some (some (.ref (cAt X.mg y))) →
      (t σ H fun vs H1 => sp vs H1 Q (WE W σ)) → wpAny (model X.prog X.w) X.A (eval (.Call (.Name x p) (e :: es) [] pos) X.env) (EP X pins σ Q) X.xe s := by
    intro k y ps sp pins s σ H Q D hr I hs ht
    obtain ⟨f, fd, F, hk, hm, hb⟩ := D.ex
    rw [cAt_eq hm] at hs
    have look := (pe_var (pos := p) hN hv hd hcd).run pins s σ H (fun v H1 => v = .ref f ∧ H1 = H) I ⟨.ref f, hs, rfl, rfl⟩
    refine wpAny_Call_Name_kw (thn look ?_)
    rintro u s1 ⟨v, H1, I1, q1, rfl, rfl⟩
    cases q1
    have args := ha.run pos pins s1 σ _ _ I1 ht
    refine PySem.W.callWith_K (h₀ := X.base) I.ok.mod.kin hk (thn args ?_) he hpl
    rintro us s2 ⟨vs, H2, I2, r, q⟩
    exact ⟨I2.kIn, run_G F hr hb (fun e s' c => passAt tk σ pins H2 s2 e s' I2 c) I2 r q⟩
  constructor
  rintro pins s σ H Q I (⟨h1, h2⟩ | ⟨h1, h2⟩)
  · exact one pins s σ H Q D1 r1 I h1 h2
  · exact one pins s σ H Q D2 r2 I h1 h2
end
end Toy
namespace Toy
open PySem L2
def top (i : Nat) : Stmt := PySem.Challenge.pw_joinedasks_k34_settings_and_led.main.body.getD i (.Pass ⟨0, 0, 0, 0⟩)
abbrev s_is_whole : Stmt := top 7
theorem sc_is_whole : FnScope ["thing"] ["thing"] (defScope s_is_whole) := ⟨rfl, rfl, rfl, by decide +kernel, rfl, by decide +kernel, by decide +kernel⟩
abbrev s_is_within : Stmt := top 8
theorem sc_is_within : FnScope ["thing", "least", "most"] ["thing", "least", "most"] (defScope s_is_within) := ⟨rfl, rfl, rfl, by decide +kernel, rfl, by decide +kernel, by decide +kernel⟩
abbrev s_want_net : Stmt := top 9
theorem sc_want_net : FnScope ["k", "deepest"] ["k", "deepest"] (defScope s_want_net) := ⟨rfl, rfl, rfl, by decide +kernel, rfl, by decide +kernel, by decide +kernel⟩
abbrev s_number_without : Stmt := top 11
theorem sc_number_without : FnScope ["k", "line", "stage", "left"] ["k", "line", "stage"] (defScope s_number_without) := ⟨rfl, rfl, rfl, by decide +kernel, rfl, by decide +kernel, by decide +kernel⟩
abbrev s_is_setting_row : Stmt := top 13
theorem sc_is_setting_row : FnScope ["k", "thing", "number"] ["k", "thing"] (defScope s_is_setting_row) := ⟨rfl, rfl, rfl, by decide +kernel, rfl, by decide +kernel, by decide +kernel⟩
abbrev s_is_settings : Stmt := top 14
theorem sc_is_settings : FnScope ["k", "thing", "row"] ["k", "thing"] (defScope s_is_settings) := ⟨rfl, rfl, rfl, by decide +kernel, rfl, by decide +kernel, by decide +kernel⟩
abbrev s_want_settings : Stmt := top 15
theorem sc_want_settings : FnScope ["k", "thing"] ["k", "thing"] (defScope s_want_settings) := ⟨rfl, rfl, rfl, by decide +kernel, rfl, by decide +kernel, by decide +kernel⟩
abbrev s_plain_rows : Stmt := top 16
theorem sc_plain_rows : FnScope ["k", "stage"] ["k"] (defScope s_plain_rows) := ⟨rfl, rfl, rfl, by decide +kernel, rfl, by decide +kernel, by decide +kernel⟩
abbrev s_as_settings : Stmt := top 17
theorem sc_as_settings : FnScope ["rows", "row"] ["rows"] (defScope s_as_settings) := ⟨rfl, rfl, rfl, by decide +kernel, rfl, by decide +kernel, by decide +kernel⟩
abbrev s_straight : Stmt := top 18
theorem sc_straight : FnScope ["k"] ["k"] (defScope s_straight) := ⟨rfl, rfl, rfl, by decide +kernel, rfl, by decide +kernel, by decide +kernel⟩
abbrev s_led_from : Stmt := top 19
theorem sc_led_from : FnScope ["k", "settings", "hand", "line", "stage"] ["k", "settings", "hand"] (defScope s_led_from) := ⟨rfl, rfl, rfl, by decide +kernel, rfl, by decide +kernel, by decide +kernel⟩
abbrev s_led : Stmt := top 20
theorem sc_led : FnScope ["k", "settings", "hand"] ["k", "settings"] (defScope s_led) := ⟨rfl, rfl, rfl, by decide +kernel, rfl, by decide +kernel, by decide +kernel⟩
abbrev s__law_rich : Stmt := top 22
theorem sc__law_rich : FnScope ["_law_cell", "_law_turn", "_law_found", "_law_k", "_law_prime", "_law_seed"] ["_law_cell", "_law_turn"] (defScope s__law_rich) := ⟨rfl, rfl, rfl, by decide +kernel, rfl, by decide +kernel, by decide +kernel⟩
abbrev s__law_purse : Stmt := top 23
theorem sc__law_purse : FnScope ["_law_script", "_law_k", "_law_cell"] ["_law_script", "_law_k"] (defScope s__law_purse) := ⟨rfl, rfl, rfl, by decide +kernel, rfl, by decide +kernel, by decide +kernel⟩
abbrev s__law_take : Stmt := top 24
theorem sc__law_take : FnScope ["_law_purse_here", "_law_many", "_law_digit"] ["_law_purse_here", "_law_many"] (defScope s__law_take) := ⟨rfl, rfl, rfl, by decide +kernel, rfl, by decide +kernel, by decide +kernel⟩
abbrev s__law_figures : Stmt := top 25
theorem sc__law_figures : FnScope ["_law_k", "_law_number_here", "_law_at"] ["_law_k", "_law_number_here"] (defScope s__law_figures) := ⟨rfl, rfl, rfl, by decide +kernel, rfl, by decide +kernel, by decide +kernel⟩
abbrev s__law_number : Stmt := top 26
theorem sc__law_number : FnScope ["_law_figures_here", "_law_found", "_law_one"] ["_law_figures_here"] (defScope s__law_number) := ⟨rfl, rfl, rfl, by decide +kernel, rfl, by decide +kernel, by decide +kernel⟩
abbrev s__law_crossed_line : Stmt := top 28
theorem sc__law_crossed_line : FnScope ["_law_k", "_law_settings_here", "_law_line", "_law_stage", "_law_figures_here", "_law_number_here"] ["_law_k", "_law_settings_here", "_law_line", "_law_stage"] (defScope s__law_crossed_line) := ⟨rfl, rfl, rfl, by decide +kernel, rfl, by decide +kernel, by decide +kernel⟩
abbrev s__law_led : Stmt := top 29
theorem sc__law_led : FnScope ["_law_k", "_law_settings_here", "_law_found", "_law_hand", "_law_line", "_law_stage"] ["_law_k", "_law_settings_here"] (defScope s__law_led) := ⟨rfl, rfl, rfl, by decide +kernel, rfl, by decide +kernel, by decide +kernel⟩
abbrev s__law_settings : Stmt := top 30
theorem sc__law_settings : FnScope ["_law_purse_here", "_law_k", "_law_rows", "_law_stage", "_law_number_here"] ["_law_purse_here", "_law_k"] (defScope s__law_settings) := ⟨rfl, rfl, rfl, by decide +kernel, rfl, by decide +kernel, by decide +kernel⟩
abbrev s__law_is_number : Stmt := top 31
theorem sc__law_is_number : FnScope ["_law_thing"] ["_law_thing"] (defScope s__law_is_number) := ⟨rfl, rfl, rfl, by decide +kernel, rfl, by decide +kernel, by decide +kernel⟩
abbrev s__law_is_good_row : Stmt := top 32
theorem sc__law_is_good_row : FnScope ["_law_k", "_law_thing", "_law_one"] ["_law_k", "_law_thing"] (defScope s__law_is_good_row) := ⟨rfl, rfl, rfl, by decide +kernel, rfl, by decide +kernel, by decide +kernel⟩
abbrev s__law_are_good : Stmt := top 33
theorem sc__law_are_good : FnScope ["_law_k", "_law_thing", "_law_row"] ["_law_k", "_law_thing"] (defScope s__law_are_good) := ⟨rfl, rfl, rfl, by decide +kernel, rfl, by decide +kernel, by decide +kernel⟩
abbrev s__law_put : Stmt := top 34
theorem sc__law_put : FnScope ["_law_row", "_law_at", "_law_thing"] ["_law_row", "_law_at", "_law_thing"] (defScope s__law_put) := ⟨rfl, rfl, rfl, by decide +kernel, rfl, by decide +kernel, by decide +kernel⟩
abbrev s__law_bad_row : Stmt := top 35
theorem sc__law_bad_row : FnScope ["_law_purse_here", "_law_row", "_law_turn", "_law_at", "_law_far", "_law_odd", "_law_alike", "_law_place"] ["_law_purse_here", "_law_row"] (defScope s__law_bad_row) := ⟨rfl, rfl, rfl, by decide +kernel, rfl, by decide +kernel, by decide +kernel⟩
abbrev s__law_otherwise : Stmt := top 36
theorem sc__law_otherwise : FnScope ["_law_purse_here", "_law_k", "_law_settings_here", "_law_turn", "_law_odd", "_law_at"] ["_law_purse_here", "_law_k", "_law_settings_here"] (defScope s__law_otherwise) := ⟨rfl, rfl, rfl, by decide +kernel, rfl, by decide +kernel, by decide +kernel⟩
abbrev s__law_led_or_not : Stmt := top 37
theorem sc__law_led_or_not : FnScope ["_law_k", "_law_thing", "_law_found", "e", "_law_others", "_law_one"] ["_law_k", "_law_thing"] (defScope s__law_led_or_not) := ⟨rfl, rfl, rfl, by decide +kernel, rfl, by decide +kernel, by decide +kernel⟩
abbrev s__law_right : Stmt := top 38
theorem sc__law_right : FnScope ["_law_k", "_law_thing", "_law_is_good", "_law_told"] ["_law_k", "_law_thing"] (defScope s__law_right) := ⟨rfl, rfl, rfl, by decide +kernel, rfl, by decide +kernel, by decide +kernel⟩
abbrev s_law : Stmt := top 39
theorem sc_law : FnScope ["_law_script", "_law_cell", "_law_purse_here", "_law_k", "_law_settings_here", "_law_many", "_law_truths", "_law_turn", "_law_plain", "_law_row", "_law_one", "_law_thing"] ["_law_script"] (defScope s_law) := ⟨rfl, rfl, rfl, by decide +kernel, rfl, by decide +kernel, by decide +kernel⟩
structure Bl (K : PySem.W.Frag) (mg : Str → Option Value) : Prop where
  ValueError_ : mg "ValueError" = none
  abs_ : mg "abs" = none
  all_ : mg "all" = none
  bool_ : mg "bool" = none
  dict_ : mg "dict" = none
  e_ : mg "e" = none
  enumerate_ : mg "enumerate" = none
  int_ : mg "int" = none
  isinstance_ : mg "isinstance" = none
  len_ : mg "len" = none
  list_ : mg "list" = none
  max_ : mg "max" = none
  min_ : mg "min" = none
  range_ : mg "range" = none
  sum_ : mg "sum" = none
  tuple_ : mg "tuple" = none
  AskError_ : ExcF K mg "AskError"
  NoNet_ : ExcF K mg "NoNet"
  NoHand_ : ExcF K mg "NoHand"
  NoSide_ : ExcF K mg "NoSide"
  NoSettings_ : ExcF K mg "NoSettings"
  NoSettings_AskError_ : SubF K mg "NoSettings" "AskError" true
  NoSettings_NoNet_ : SubF K mg "NoSettings" "NoNet" false
  NoSettings_NoHand_ : SubF K mg "NoSettings" "NoHand" false
  NoSettings_NoSide_ : SubF K mg "NoSettings" "NoSide" false
  NoSettings_NoSettings_ : SubF K mg "NoSettings" "NoSettings" true
  NoSettings_i : ExcI K mg "NoSettings"

end Toy
/-! ### enumerate of a tuple -/
namespace PySem
open Sem (wp)
open AutoSeq1 (wpAny_loadPart')
theorem meets_enumerate_newTu (l : Addr) (items : Array Value) (n : Nat) (dct : Option Addr) (sl : Array (Option Value)) :
    Meets (Builtin.«enumerate.__new__» ⟨[.type "enumerate", .ref l], []⟩) (fun _ R s => s.heap.get? l = some { cls := .type "tuple", dict := dct, data := .seq items n, slots := sl } ∧
      R (.ok (.ret (.ref (s.heap.push { cls := .type "tuple_iterator", data := .fields #[.ref l, .int 0 0] }).objs.size)))
        { s with heap := (s.heap.push { cls := .type "tuple_iterator", data := .fields #[.ref l, .int 0 0] }).push { cls := .type "enumerate", data := .fields #[.none, .bool false, .ref s.heap.objs.size, rawInt 0, .none, .none] } }) :=
  .of_wp fun prog w A R s h => by
    obtain ⟨hp, g, d, tk, os⟩ := s; obtain ⟨hl, h⟩ := h
    have hsub := sub_enumerate
    have hL : Heap.IsTuple (Shared.heap ⟨hp, g, d, tk, os⟩) l items := ⟨_, hl, rfl, n, rfl⟩
    wp_walk using wpAny_loadPart' hl
    refine wpAny_stack_any fun st => wpAny_pure ?_
    split
    · rename_i c _ _ _ _ _
      cases (c == Value.type "enumerate")
      · wp_walk using wpAny_loadPart' hl, wpAny_pyIter_tuple hL
        exact ⟨_, rfl, h⟩
      · wp_walk using wpAny_loadPart' hl, wpAny_pyIter_tuple hL
        exact ⟨_, rfl, h⟩
    · wp_walk using wpAny_loadPart' hl, wpAny_pyIter_tuple hL
      exact ⟨_, rfl, h⟩
theorem call_enumerate_tup {prog : Program} {w : World} {A : Around} {E : Value → Shared → Prop} {s : Shared} {l : Addr} {items : Array Value} {Q : Value → Shared → Prop} (hL : s.heap.IsTuple l items)
    (h : ∀ h', IsEnum h' (s.heap.objs.size + 1) s.heap.objs.size 0 .none → h'.IsTupleIter s.heap.objs.size l 0 → h'.objs.size = s.heap.objs.size + 2 →
      (∀ b o, s.heap.get? b = some o → h'.get? b = some o) → Q (.ref (s.heap.objs.size + 1)) { s with heap := h' }) :
    wpAny (model prog w) A (call (.type "enumerate") [.ref l]) Q E s := by
  obtain ⟨⟨c, dct, dt, sl⟩, hl, hc, n, hd⟩ := hL
  replace hc : c = .type "tuple" := hc
  replace hd : dt = .seq items n := hd
  subst hc hd
  refine callType_new F.called_enumerate (by decide) (F.typeCall_enumerate_1 _) (F.newCall_enumerate_1 _) (fun obj => F.args_object_init_2 obj _) F.entry_enumerate_new
    (meets_enumerate_newTu l items n dct sl) ⟨hl, ?_⟩
  have hz : (s.heap.push { cls := .type "tuple_iterator", data := .fields #[.ref l, .int 0 0] }).objs.size = s.heap.objs.size + 1 := Heap.size_push ..
  show _ ∧ _
  rw [hz]
  have he : IsEnum ((s.heap.push { cls := .type "tuple_iterator", data := .fields #[.ref l, .int 0 0] }).push
      { cls := .type "enumerate", data := .fields #[.none, .bool false, .ref s.heap.objs.size, rawInt 0, .none, .none] }) (s.heap.objs.size + 1) s.heap.objs.size 0 .none := by
    have := Heap.get?_push_size (s.heap.push { cls := .type "tuple_iterator", data := .fields #[.ref l, .int 0 0] })
      (o := { cls := .type "enumerate", data := .fields #[.none, .bool false, .ref s.heap.objs.size, rawInt 0, .none, .none] }) rfl
    rw [hz] at this; exact this
  refine ⟨⟨_, he, rfl⟩, h _ he ⟨_, Heap.get?_push_of_some _ (Heap.get?_push_size _ rfl), rfl, rfl⟩ (by rw [Heap.size_push, hz]) fun b o x => Heap.get?_push_of_some _ (Heap.get?_push_of_some _ x)⟩
end PySem
namespace Toy
open PySem PySem.Spec PyProof.Rows L2
theorem tup_is {h : Heap} {a : Addr} {its : Array Value} (p : IsTup h a its) : h.IsTuple a its := p
/-- the tuple at a as it stands at each turn, each item in a new pair -/
def IteT (K : PySem.W.Frag) (a : Addr) : It :=
  ⟨fun i H => ∃ (xs : List V) (x : V), SqT K H a xs ∧ xs[i]? = some x, fun i H v H' => ∃ T x, v = .ref T ∧ H T = none ∧ H' = upd H T (.tup [.int (i : Nat), x]) ∧ ∀ xs, SqT K H a xs → xs[i]? = some x, fun i H => ∃ xs : List V, SqT K H a xs ∧ xs.length = i⟩
theorem turn_enumTu {P : Program} {w : World} {K : PySem.W.Frag} {elts : List Expr} {kk : Nat} {tpos : Pos} (a e it : Addr) (hai : a ≠ it) :
    Turn P w K (.Tuple elts kk tpos) (IteT K a) [e, it] e (fun i h => (∃ old, IsEnum h e it ((i : Nat) : Int) old) ∧ h.IsTupleIter it a i ∧ e ≠ it ∧ e ≠ a) where
  mem := by simp
  obj := fun i h st b hb => by
    obtain ⟨⟨old, he⟩, ⟨o, ho, hc, hd⟩, _⟩ := st
    have e' : b = e ∨ b = it := by simpa using hb
    rcases e' with z | z
    · rw [z]; exact ⟨_, he, fun v q => nomatch q⟩
    · rw [z]; exact ⟨o, ho, fun v q => by rw [hd] at q; cases q⟩
  keep := fun i h h' st k => let ⟨⟨old, he⟩, hi, hne⟩ := st; ⟨⟨old, k e (by simp) _ he⟩, hi.at fun o q => k it (by simp) o q, hne⟩
  item := by
    intro X hP hw hK hc i pins s σ H E I hf st hg
    subst hP hw hK
    obtain ⟨⟨old, he⟩, hit, hne, hea⟩ := st
    obtain ⟨xs, x, hq, hx⟩ := hg
    obtain ⟨its, rv, p, hz⟩ := I.tuple hq
    obtain ⟨u, hu, ru⟩ := rv.get hx
    have hel : e < s.heap.objs.size := Heap.lt_size he
    have hil : it < s.heap.objs.size := by obtain ⟨_, q, _⟩ := hit; exact Heap.lt_size q
    refine wpAny_pyNext_enum_itemD (Draws.tuple (show X.A.in1.handled = none from I.ok.hd hc) it a hai its.toArray) he ⟨hit, tup_is p⟩ (by have h1 := rv.length; have h2 := (List.getElem?_eq_some_iff.mp hx).1; rw [List.size_toArray]; omega) hne (by simp [hne, hea]) fun x' h' tk hP ho hst' hT hsz hk => ?_
    obtain ⟨hit', ht'⟩ := hst'
    have ex : x' = u := by
      have h1 : its[i]? = some x' := by simpa using hP
      rw [hu] at h1
      exact (Option.some.inj h1).symm
    subst ex
    refine ⟨_, rfl, wpAny_letOwnedTupleGo_enum (s := { s with heap := h', toks := tk + 1 }) ho fun h'' he' sb => ?_⟩
    have hT2 : h''.get? s.heap.objs.size = some { cls := .type "tuple", data := .seq #[.int i tk, x'] } := (sb.2 _ (Nat.ne_of_gt hel)).trans hT
    have new : ObjOk X.prog X.w (upd H s.heap.objs.size (.tup [.int (i : Nat), x])) h'' s.heap.objs.size (.tup [.int (i : Nat), x]) :=
      ⟨by show 2 ≤ sizeLine; decide, [.int i tk, x'], .cons ⟨_, rfl⟩ (.cons ru .nil), ⟨_, hT2, rfl, _, rfl⟩⟩
    have I1 : Inv X pins σ (upd H s.heap.objs.size (.tup [.int (i : Nat), x])) { s with heap := h'', toks := tk + 1 } :=
      I.turnedNew (ch := [e, it]) (fun b ob hb q => (sb.2 b (fun z => hb (by simp [z]))).trans (hk b ob (fun z => hb (by simp [z])) (fun z => hb (by simp [z])) q)) hf (Nat.le_refl _) new
    refine ⟨.ref s.heap.objs.size, _, I1, rfl, ⟨_, x, rfl, I.hok.fresh (Nat.le_refl _), rfl, fun ys hy => by rw [I.tuple_inj hy hq]; exact hx⟩, ⟨⟨x', ?_⟩, hit'.at fun o q => (sb.2 it (Ne.symm hne)).trans q, hne, hea⟩, fun b hb => ?_⟩
    · have e1 : ((i + 1 : Nat) : Int) = (i : Int) + 1 := by omega
      rw [e1]; exact he'
    · have hb' : b < s.heap.objs.size := by
        have e' : b = e ∨ b = it := by simpa using hb
        rcases e' with z | z
        · rw [z]; exact hel
        · rw [z]; exact hil
      rw [upd_ne (Nat.ne_of_lt hb')]
      exact (hf b hb).1
  done := by
    intro X hP hw hK hc i pins s σ H E I hf st hg
    subst hP hw hK
    obtain ⟨⟨old, he⟩, hit, hne, hea⟩ := st
    obtain ⟨xs, hq, hx⟩ := hg
    obtain ⟨its, rv, p, hz⟩ := I.tuple hq
    obtain ⟨f0, f1, f2, f3, f4, f5⟩ := hf it (by simp)
    have hl := rv.length
    have e2 : i = its.toArray.size := by rw [List.size_toArray]; omega
    rw [e2] at hit he
    exact wpAny_pyNext_enum_endD (Draws.tuple (show X.A.in1.handled = none from I.ok.hd hc) it a hai its.toArray) he ⟨hit, tup_is p⟩ fun h' eb => ⟨rfl, I.turned (t' := s.toks) (fun b o hb q => eb b o hb q) f0 f1 f3 f4 f5⟩
  self := fun A i s Q E st h => let ⟨⟨_, he⟩, _⟩ := st; wpAny_pyIter_enum he h
def iEnumT (K : PySem.W.Frag) (ta : TA) : TI := fun σ H R => ta σ H fun vs H1 => ∃ a xs, vs = [.ref a] ∧ SqT K H1 a xs ∧ R (IteT K a) H1
theorem pi_enumT {X : Cx} {e : Expr} {ta : TA} {p pos tpos : Pos} {elts : List Expr} {kk : Nat} (hg : Gl X "enumerate") (hm : X.mg "enumerate" = none) (ha : PA X [e] ta) (hs : starEach [e] X.env = [(false, eval e X.env)] := by rfl) :
    PI X (.Tuple elts kk tpos) (.Call (.Name "enumerate" p) [e] [] pos) (iEnumT X.K ta) := by
  refine ⟨fun pins s σ H R I h => ?_⟩
  refine Call_ (ld_blt I hg hm boot_enumerate (PyProof.Rows.callWith_type1 (thn (ha.run pos pins s σ H _ I h) fun us s1 ⟨vs, H1, I1, r1, q1⟩ => ?_) hs rfl))
  obtain ⟨a, xs, ex, hq, q⟩ := q1
  subst ex
  cases r1 with
  | cons r rr =>
    cases rr
    cases r
    obtain ⟨its, rv, p', hz⟩ := I1.tuple hq
    have hal : a < s1.heap.objs.size := by obtain ⟨o, ho, _⟩ := p'; exact Heap.lt_size ho
    refine call_enumerate_tup (tup_is p') fun h' he hit hsz hk => wpAny_pyIter_enum he ?_
    have I2 : Inv X pins σ H1 { s1 with heap := h' } := I1.kept (t' := s1.toks) hk
    refine ⟨s1.heap.objs.size + 1, [s1.heap.objs.size + 1, s1.heap.objs.size], _, _, H1, rfl, I2, turn_enumTu a (s1.heap.objs.size + 1) s1.heap.objs.size (Nat.ne_of_lt hal), ⟨⟨.none, he⟩, hit, Nat.succ_ne_self _, Nat.ne_of_gt (Nat.lt_succ_of_lt hal)⟩, fun b hb => ?_, q⟩
    have e' : b = s1.heap.objs.size + 1 ∨ b = s1.heap.objs.size := by simpa using hb
    have hle : s1.heap.objs.size ≤ b := by
      rcases e' with z | z
      · rw [z]; exact Nat.le_add_right _ _
      · rw [z]; exact Nat.le_refl _
    exact I1.fpOk hle (I1.hok.fresh hle)
theorem for_enumT {K : PySem.W.Frag} {a : Addr} {xs : List V} {g : TG} {tb : TS} {D : Ends} {σ : L2.St} {H : Hp} (Pv : Nat → L2.St → Hp → Prop) (h0 : Pv 0 σ H) (hl : ∀ i σ H, i ≤ xs.length → Pv i σ H → SqT K H a xs)
    (hs : ∀ (i : Nat) x (T : Addr) σ H, xs[i]? = some x → Pv i σ H → H T = none → g (.ref T) σ (upd H T (.tup [.int i, x])) fun σ2 H2 => tb { D with nx := Pv (i + 1), ct := Pv (i + 1), bk := D.nx } σ2 H2) (hd : ∀ σ H, Pv xs.length σ H → D.nx σ H) :
    ∃ W : Nat → Nat → L2.St → Hp → Prop, (∃ m, W 0 m σ H) ∧ ∀ i m σ H, W i m σ H →
      ((IteT K a).stop i H ∧ D.nx σ H) ∨ ((IteT K a).go i H ∧ ∃ N : L2.St → Hp → Prop, (∀ σ' H', N σ' H' → ∃ m', m' < m ∧ W (i + 1) m' σ' H') ∧ ∀ x H', (IteT K a).yld i H x H' → g x σ H' fun σ2 H2 => tb { D with nx := N, ct := N, bk := D.nx } σ2 H2) := by
  refine ⟨fun i m σ H => m = xs.length - i ∧ i ≤ xs.length ∧ Pv i σ H, ⟨xs.length, by simp, Nat.zero_le _, h0⟩, ?_⟩
  rintro i m σ H ⟨rfl, hi, p⟩
  have q := hl i σ H hi p
  by_cases hlt : i < xs.length
  · refine .inr ⟨⟨xs, xs[i], q, List.getElem?_eq_getElem hlt⟩, Pv (i + 1), fun σ' H' p' => ⟨xs.length - (i + 1), by omega, rfl, hlt, p'⟩, fun x H' y => ?_⟩
    obtain ⟨T, z, rfl, hT, rfl, hz⟩ := y
    exact hs i z T σ H (hz xs q) p hT
  · have e : i = xs.length := by omega
    subst e
    exact .inl ⟨⟨xs, q, rfl⟩, hd σ H p⟩
/-! ### loops over any iterable: the forms one uses -/
theorem lc_it {I : It} {n : Nat} {g : TG} {tt : TT} {te : TE} {vs : List Nat} {σ : L2.St} {H1 : Hp} {D : Addr} {Qd : Hp → Prop} (Pv : Nat → Hp → Prop) (h0 : Pv 0 (upd H1 D (.lst [])))
    (hgo : ∀ i H, i < n → Pv i H → I.go i H) (hst : ∀ H, Pv n H → I.stop n H)
    (hs : ∀ i x H H', i < n → Pv i H → I.yld i H x H' → g x (wipe σ vs) H' fun σ2 H2 => wipe σ2 vs = wipe σ vs ∧ tt σ2 H2 fun b H3 =>
      if b = true then te σ2 H3 fun y H4 => ∃ acc, H4 D = some (.lst acc) ∧ acc.length < sizeLine ∧ Pv (i + 1) (upd H4 D (.lst (acc ++ [y]))) else Pv (i + 1) H3) (hd : ∀ H, Pv n H → Qd H) :
    ∃ W : Nat → Nat → Hp → Prop, (∃ m, W 0 m (upd H1 D (.lst []))) ∧ ∀ i m H, W i m H →
      (I.stop i H ∧ Qd H) ∨ (I.go i H ∧ ∃ Nx : Hp → Prop, (∀ H', Nx H' → ∃ m', m' < m ∧ W (i + 1) m' H') ∧ ∀ x H', I.yld i H x H' → g x (wipe σ vs) H' fun σ2 H2 => wipe σ2 vs = wipe σ vs ∧ tt σ2 H2 fun b H3 =>
        if b = true then te σ2 H3 fun y H4 => ∃ acc, H4 D = some (.lst acc) ∧ acc.length < sizeLine ∧ Nx (upd H4 D (.lst (acc ++ [y]))) else Nx H3) := by
  refine ⟨fun i m H => m = n - i ∧ i ≤ n ∧ Pv i H, ⟨n, by simp, Nat.zero_le _, h0⟩, ?_⟩
  rintro i m H ⟨rfl, hi, p⟩
  by_cases hlt : i < n
  · exact .inr ⟨hgo i H hlt p, Pv (i + 1), fun H' p' => ⟨n - (i + 1), by omega, rfl, hlt, p'⟩, fun x H' y => hs i x H H' hlt p y⟩
  · have e : i = n := by omega
    subst e
    exact .inl ⟨hst H p, hd H p⟩
theorem for_it {I : It} {n : Nat} {g : TG} {tb : TS} {D : Ends} {σ : L2.St} {H : Hp} (Pv : Nat → L2.St → Hp → Prop) (h0 : Pv 0 σ H)
    (hgo : ∀ i σ H, i < n → Pv i σ H → I.go i H) (hst : ∀ σ H, Pv n σ H → I.stop n H)
    (hs : ∀ i x σ H H', i < n → Pv i σ H → I.yld i H x H' → g x σ H' fun σ2 H2 => tb { D with nx := Pv (i + 1), ct := Pv (i + 1), bk := D.nx } σ2 H2) (hd : ∀ σ H, Pv n σ H → D.nx σ H) :
    ∃ W : Nat → Nat → L2.St → Hp → Prop, (∃ m, W 0 m σ H) ∧ ∀ i m σ H, W i m σ H →
      (I.stop i H ∧ D.nx σ H) ∨ (I.go i H ∧ ∃ N : L2.St → Hp → Prop, (∀ σ' H', N σ' H' → ∃ m', m' < m ∧ W (i + 1) m' σ' H') ∧ ∀ x H', I.yld i H x H' → g x σ H' fun σ2 H2 => tb { D with nx := N, ct := N, bk := D.nx } σ2 H2) := by
  refine ⟨fun i m σ H => m = n - i ∧ i ≤ n ∧ Pv i σ H, ⟨n, by simp, Nat.zero_le _, h0⟩, ?_⟩
  rintro i m σ H ⟨rfl, hi, p⟩
  by_cases hlt : i < n
  · exact .inr ⟨hgo i σ H hlt p, Pv (i + 1), fun σ' H' p' => ⟨n - (i + 1), by omega, rfl, hlt, p'⟩, fun x H' y => hs i x σ H H' hlt p y⟩
  · have e : i = n := by omega
    subst e
    exact .inl ⟨hst σ H p, hd σ H p⟩
/-- [.. for i, x in enumerate(xs)] -/
theorem lc_enum {K : PySem.W.Frag} {a : Addr} {xs : List V} {g : TG} {tt : TT} {te : TE} {vs : List Nat} {σ : L2.St} {H1 : Hp} {D : Addr} {Qd : Hp → Prop} (Pv : Nat → Hp → Prop) (h0 : Pv 0 (upd H1 D (.lst []))) (hl : ∀ i H, i ≤ xs.length → Pv i H → SqL K H a xs)
    (hs : ∀ (i : Nat) x (T : Addr) H, xs[i]? = some x → Pv i H → H T = none → g (.ref T) (wipe σ vs) (upd H T (.tup [.int i, x])) fun σ2 H2 => wipe σ2 vs = wipe σ vs ∧ tt σ2 H2 fun b H3 =>
      if b = true then te σ2 H3 fun y H4 => ∃ acc, H4 D = some (.lst acc) ∧ acc.length < sizeLine ∧ Pv (i + 1) (upd H4 D (.lst (acc ++ [y]))) else Pv (i + 1) H3) (hd : ∀ H, Pv xs.length H → Qd H) :
    ∃ W : Nat → Nat → Hp → Prop, (∃ m, W 0 m (upd H1 D (.lst []))) ∧ ∀ i m H, W i m H →
      ((Ite K a).stop i H ∧ Qd H) ∨ ((Ite K a).go i H ∧ ∃ Nx : Hp → Prop, (∀ H', Nx H' → ∃ m', m' < m ∧ W (i + 1) m' H') ∧ ∀ x H', (Ite K a).yld i H x H' → g x (wipe σ vs) H' fun σ2 H2 => wipe σ2 vs = wipe σ vs ∧ tt σ2 H2 fun b H3 =>
        if b = true then te σ2 H3 fun y H4 => ∃ acc, H4 D = some (.lst acc) ∧ acc.length < sizeLine ∧ Nx (upd H4 D (.lst (acc ++ [y]))) else Nx H3) := by
  refine lc_it (I := Ite K a) (n := xs.length) Pv h0 (fun i H hi p => ⟨xs, xs[i], hl i H (Nat.le_of_lt hi) p, List.getElem?_eq_getElem hi⟩) (fun H p => ⟨xs, hl _ H (Nat.le_refl _) p, Nat.le_refl _⟩) ?_ hd
  rintro i x H H' hi p ⟨T, z, rfl, hT, rfl, hz⟩
  exact hs i z T H (hz xs (hl i H (Nat.le_of_lt hi) p)) p hT
theorem for_enum' {K : PySem.W.Frag} {a : Addr} {xs : List V} {g : TG} {tb : TS} {D : Ends} {σ : L2.St} {H : Hp} (Pv : Nat → L2.St → Hp → Prop) (h0 : Pv 0 σ H) (hl : ∀ i σ H, i ≤ xs.length → Pv i σ H → SqL K H a xs)
    (hs : ∀ (i : Nat) x (T : Addr) σ H, xs[i]? = some x → Pv i σ H → H T = none → g (.ref T) σ (upd H T (.tup [.int i, x])) fun σ2 H2 => tb { D with nx := Pv (i + 1), ct := Pv (i + 1), bk := D.nx } σ2 H2) (hd : ∀ σ H, Pv xs.length σ H → D.nx σ H) :
    ∃ W : Nat → Nat → L2.St → Hp → Prop, (∃ m, W 0 m σ H) ∧ ∀ i m σ H, W i m σ H →
      ((Ite K a).stop i H ∧ D.nx σ H) ∨ ((Ite K a).go i H ∧ ∃ N : L2.St → Hp → Prop, (∀ σ' H', N σ' H' → ∃ m', m' < m ∧ W (i + 1) m' σ' H') ∧ ∀ x H', (Ite K a).yld i H x H' → g x σ H' fun σ2 H2 => tb { D with nx := N, ct := N, bk := D.nx } σ2 H2) := by
  refine for_it (I := Ite K a) (n := xs.length) Pv h0 (fun i σ H hi p => ⟨xs, xs[i], hl i σ H (Nat.le_of_lt hi) p, List.getElem?_eq_getElem hi⟩) (fun σ H p => ⟨xs, hl _ σ H (Nat.le_refl _) p, Nat.le_refl _⟩) ?_ hd
  rintro i x σ H H' hi p ⟨T, z, rfl, hT, rfl, hz⟩
  exact hs i z T σ H (hz xs (hl i σ H (Nat.le_of_lt hi) p)) p hT
/-- xs[i] of a list, as a value -/
theorem get_listI {X : Cx} : PGet X (rIxL X.K) := by
  intro pins s σ H o i ov iv Q I ro ri h
  obtain ⟨p, xs, k, z, rfl, rfl, hq, he, q⟩ := h
  cases ro
  obtain ⟨t, rfl⟩ := ri
  obtain ⟨its, r, pl, hz⟩ := I.list hq
  obtain ⟨j, h1, h2, h3, h4, h5⟩ := atI_get he
  obtain ⟨w, ew, rw'⟩ := r.get h2
  have hl := r.length
  have hn := line63
  have fin : EP X pins σ Q w s := ⟨z, H, I, rw', q⟩
  by_cases h0 : 0 ≤ k
  · have hj : k.toNat = j := by
      rw [seqIndex_of h0 h5] at h1
      exact Option.some.inj h1
    exact wpAny_getItem_list pl.isList h0 (by omega) (by rw [hj]; simpa using ew) fin
  · have hj : (k + (its.toArray.size : Int)).toNat = j := by
      rw [seqIndex_neg (by omega) h4] at h1
      rw [List.size_toArray, ← hl]
      exact Option.some.inj h1
    exact wpAny_getItem_list_neg pl.isList (by omega) (by rw [List.size_toArray] <;> omega) (by omega) (by rw [hj]; simpa using ew) fin
end Toy
/-! ### list(enumerate(t)), t a tuple (wants enumt.inc) -/
namespace PySem
theorem enum_no_len' : typeLookup (.type "enumerate") "__len__" = pure none := by rw [typeLookup_type, builtinLookup_eq_fast]; kernel_rfl
theorem enum_no_hint' : typeLookup (.type "enumerate") "__length_hint__" = pure none := by rw [typeLookup_type, builtinLookup_eq_fast]; kernel_rfl
section
variable {prog : Program} {w : World} {A : Around} {E : Value → Shared → Prop} {s : Shared}
theorem enum_next_heldD {e it T : Addr} {fp : List Addr} {n i : Nat} {P : Nat → Value → Prop} {St : Nat → Heap → Prop} {old : Value} {f : Bool} {oT : Obj} {Q : Value → Shared → Prop}
    (D : Draws prog w A it fp n P St) (he : IsEnumHeld s.heap e it i old T f) (hT : s.heap.get? T = some oT) (hTe : T ≠ e) (hTi : T ≠ it) (hst : St i s.heap) (hlt : i < n) (hne : e ≠ it) (hef : e ∉ fp)
    (hQ : ∀ x h' tk, P i x → IsEnumHeld h' e it ((i : Int) + 1) old T true → St (i + 1) h' →
      h'.get? s.heap.objs.size = some { cls := .type "tuple", data := .seq #[.int i tk, x] } → h'.objs.size = s.heap.objs.size + 1 →
      (∀ b o, b ≠ e → b ≠ it → s.heap.get? b = some o → h'.get? b = some o) → Q (.ref s.heap.objs.size) { s with heap := h', toks := tk + 1 }) :
    wpAny (model prog w) A (Builtin.«enumerate.__next__» ⟨[.ref e], []⟩) (fun fin s' => ∃ v, fin = .done (.ret v) ∧ Q v s') E s := by
  obtain ⟨hp, g, d, tk₀, os⟩ := s
  show wpAny _ _ (field (.ref e) 2 >>= _) _ _ _
  refine wpAny_bind (wpAny_field he rfl (x := .ref it) rfl ?_)
  refine wpAny_bind (D.item i _ _ _ hlt hst fun x h₁ tk hPx hit₁ hs₁ => ?_)
  replace hs₁ : Heap.SameBut it hp h₁ := hs₁
  have he₁ : IsEnumHeld h₁ e it i old T f := (hs₁.2 e hne).trans he
  show wpAny _ _ (field (.ref e) 3 >>= _) _ _ ⟨h₁, g, d, tk, os⟩
  refine wpAny_bind (wpAny_field he₁ rfl (x := rawInt i) rfl ?_)
  show wpAny _ _ (field (.ref e) 4 >>= _) _ _ ⟨h₁, g, d, tk, os⟩
  refine wpAny_bind (wpAny_field he₁ rfl (x := .none) rfl ?_)
  show wpAny _ _ (mkInt i >>= _) _ _ ⟨h₁, g, d, tk, os⟩
  refine wpAny_bind (wpAny_mkInt ?_)
  show wpAny _ _ (setField (.ref e) 3 (rawInt ((i : Int) + 1)) >>= _) _ _ ⟨h₁, g, d, tk + 1, os⟩
  refine wpAny_bind (wpAny_setField_rec he₁ (by simp) fun h₂ he₂ hs₂ => ?_)
  replace hs₂ : Heap.SameBut e h₁ h₂ := hs₂
  replace he₂ : IsEnumHeld h₂ e it ((i : Int) + 1) old T f := he₂
  show wpAny _ _ (setField (.ref e) 4 .none >>= _) _ _ ⟨h₂, g, d, tk + 1, os⟩
  refine wpAny_bind (wpAny_setField_rec he₂ (by simp) fun h₃ he₃ hs₃ => ?_)
  replace hs₃ : Heap.SameBut e h₂ h₃ := hs₃
  replace he₃ : IsEnumHeld h₃ e it ((i : Int) + 1) old T f := he₃
  show wpAny _ _ (newTuple [.int i tk, x] >>= _) _ _ ⟨h₃, g, d, tk + 1, os⟩
  refine wpAny_bind (wpAny_newTuple ?_)
  have he₄ : IsEnumHeld (h₃.push { cls := .type "tuple", data := .seq #[.int i tk, x] }) e it ((i : Int) + 1) old T f := Heap.get?_push_of_some _ he₃
  generalize hh₄ : h₃.push { cls := .type "tuple", data := .seq #[.int i tk, x] } = h₄ at he₄
  have hsz : h₃.objs.size = hp.objs.size := by rw [hs₃.1, hs₂.1, hs₁.1]
  have hel : e < hp.objs.size := Heap.lt_size he
  have ht₄ : h₄.get? hp.objs.size = some { cls := .type "tuple", data := .seq #[.int i tk, x] } := by rw [← hh₄, ← hsz]; exact Heap.get?_push_size _ rfl
  have hz₄ : h₄.objs.size = hp.objs.size + 1 := by rw [← hh₄, Heap.size_push, hsz]
  have hk₄ : ∀ b o, b ≠ e → b ≠ it → hp.get? b = some o → h₄.get? b = some o := fun b o hbe hbi hb => by
    rw [← hh₄]; exact Heap.get?_push_of_some _ (hs₃.extBut b o hbe (hs₂.extBut b o hbe (hs₁.extBut b o hbi hb)))
  have hit₄ : St (i + 1) h₄ := D.frame _ _ _ hit₁ fun b hb o y => by
    have hbe : b ≠ e := fun q => hef (q ▸ hb)
    rw [← hh₄]; exact Heap.get?_push_of_some _ (hs₃.extBut b o hbe (hs₂.extBut b o hbe y))
  show wpAny _ _ (Builtin.SmallTypes.ownedTupleIsFree (.ref e) >>= _) _ _ ⟨h₄, g, d, tk + 1, os⟩
  rw [hsz]
  clear hh₄ he₃ hs₃ he₂ hs₂ he₁ hs₁ hit₁ hsz h₃ h₂ h₁
  refine wpAny_bind (wpAny_tupleHeld_enum (s := ⟨h₄, g, d, tk + 1, os⟩) he₄ (hk₄ T oT hTe hTi hT) fun h₅ he₅ hs₅ => ?_)
  replace hs₅ : Heap.SameBut e h₄ h₅ := hs₅
  simp only [Bool.false_eq_true, if_false]
  refine wpAny_pure ⟨_, rfl, hQ x h₅ tk hPx he₅ ?_ (hs₅.extBut _ _ (Nat.ne_of_gt hel) ht₄) ?_ fun b o hbe hbi hb => hs₅.extBut b o hbe (hk₄ b o hbe hbi hb)⟩
  · exact D.frame _ _ _ hit₄ fun b hb o y => by
      have hbe : b ≠ e := fun q => hef (q ▸ hb)
      exact hs₅.extBut b o hbe y
  · show h₅.objs.size = hp.objs.size + 1
    rw [hs₅.1, hz₄]
theorem pyNext_enum_heldD {e it T : Addr} {fp : List Addr} {n i : Nat} {P : Nat → Value → Prop} {St : Nat → Heap → Prop} {old : Value} {f : Bool} {oT : Obj} {Q : Option Value → Shared → Prop}
    (D : Draws prog w A.in1 it fp n P St) (he : IsEnumHeld s.heap e it i old T f) (hT : s.heap.get? T = some oT) (hTe : T ≠ e) (hTi : T ≠ it) (hst : St i s.heap) (hlt : i < n) (hne : e ≠ it) (hef : e ∉ fp)
    (hQ : ∀ x h' tk, P i x → IsEnumHeld h' e it ((i : Int) + 1) old T true → St (i + 1) h' →
      h'.get? s.heap.objs.size = some { cls := .type "tuple", data := .seq #[.int i tk, x] } → h'.objs.size = s.heap.objs.size + 1 →
      (∀ b o, b ≠ e → b ≠ it → s.heap.get? b = some o → h'.get? b = some o) → Q (some (.ref s.heap.objs.size)) { s with heap := h', toks := tk + 1 }) :
    wpAny (model prog w) A (pyNext (.ref e)) Q E s := by
  have hTy : s.TypeIs (.ref e) "enumerate" := ⟨_, he, rfl⟩
  unfold pyNext
  exact wpAny_bind (wpAny_attempt (wpAny_callSpecial?_slot (name := Str.ofString "__next__") hTy F.slot_enumerate_next
    (wpAny_call_entry F.slot_enumerate_next hTy F.entry_enumerate_next
      (enum_next_heldD D he hT hTe hTi hst hlt hne hef fun x h' tk a0 a1 a2 a3 a4 a5 => wpAny_pure (hQ x h' tk a0 a1 a2 a3 a4 a5)) (F.args_enumerate_next_1 _))))
theorem pyNext_enum_end_heldD {e it T : Addr} {fp : List Addr} {n : Nat} {P : Nat → Value → Prop} {St : Nat → Heap → Prop} {i : Int} {old : Value} {f : Bool} {Q : Option Value → Shared → Prop}
    (D : Draws prog w A.in1 it fp n P St) (he : IsEnumHeld s.heap e it i old T f) (hst : St n s.heap)
    (hQ : ∀ h', Heap.ExtBut it s.heap h' → Q none { s with heap := h' }) : wpAny (model prog w) A (pyNext (.ref e)) Q E s := by
  have hT : s.TypeIs (.ref e) "enumerate" := ⟨_, he, rfl⟩
  unfold pyNext
  refine wpAny_bind (wpAny_attempt (wpAny_callSpecial?_slot (name := Str.ofString "__next__") hT F.slot_enumerate_next
    (wpAny_call_entry F.slot_enumerate_next hT F.entry_enumerate_next ?_ (F.args_enumerate_next_1 _))))
  show wpAny _ _ (field (.ref e) 2 >>= _) _ _ _
  refine wpAny_bind (wpAny_field he rfl (x := .ref it) rfl ?_)
  refine wpAny_bind (D.done _ _ _ hst fun h' x he' hx' => ?_)
  obtain ⟨o, ho, hc⟩ := hx'
  refine wpAny_bind (wpAny_isInstance (T := "StopIteration") (b := true) ⟨o, ho, hc⟩ isSubtype_stop ?_)
  exact wpAny_pure (hQ _ he')
end
end PySem
namespace Toy
open PySem PySem.Spec PyProof.Rows L2
open Sem (wp)
/-- the enumerator, its tuple iterator; the last pair that it made is held by the list -/
def est (e it a S : Addr) (i : Nat) (h : Heap) : Prop := h.IsTupleIter it a i ∧ ((∃ old, IsEnum h e it ((i : Nat) : Int) old) ∨ ∃ old T f oT, IsEnumHeld h e it ((i : Nat) : Int) old T f ∧ h.get? T = some oT ∧ T ≠ e ∧ T ≠ it ∧ T ≠ S)
theorem est.at {e it a S : Addr} {i : Nat} {h h' : Heap} (n1 : S ≠ e) (n2 : S ≠ it) (k : ∀ b o, b ≠ S → h.get? b = some o → h'.get? b = some o) (st : est e it a S i h) : est e it a S i h' := by
  obtain ⟨h1, hz⟩ := st
  refine ⟨h1.at fun o q => k _ o (Ne.symm n2) q, ?_⟩
  rcases hz with ⟨old, hz⟩ | ⟨old, T, f, oT, hz, hT, r1, r2, r3⟩
  · exact .inl ⟨old, k _ _ (Ne.symm n1) hz⟩
  · exact .inr ⟨old, T, f, oT, k _ _ (Ne.symm n1) hz, k _ _ r3 hT, r1, r2, r3⟩
def IxAt (H : Hp) (ts : List Addr) (xs : List V) : Prop := ∀ (j : Nat) (t : Addr) (x : V), ts[j]? = some t → xs[j]? = some x → H t = some (.tup [.int (j : Nat), x])
theorem ext_enum {X : Cx} {pins : List (Addr × Obj)} {σ : L2.St} {e it a S : Addr} {A : Around} {R : Result → Shared → Prop} (hA : A.in1.in1.handled = none) (hai : a ≠ it) (hei : e ≠ it) (hea : e ≠ a) {xs : List V} (h1000 : xs.length ≤ 1000)
    (nS : S ≠ e ∧ S ≠ it) (res : Value) (H0 : Hp) (hq : ∀ H', But S H0 H' → SqT X.K H' a xs) :
    ∀ (k i : Nat) (s : Shared) (H : Hp) (ts : List Addr), xs.length - i = k → i ≤ xs.length → Inv X pins σ H s → (∀ b ∈ [e, it], FpOk X pins H b) → est e it a S i s.heap → But S H0 H →
    H S = some (.lst (ts.map V.ref)) → ts.length = i → IxAt H ts xs →
    (∀ s' H' ts', Inv X pins σ H' s' → But S H0 H' → H' S = some (.lst (ts'.map V.ref)) → ts'.length = xs.length → IxAt H' ts' xs → R (.ok (.ret res)) s') →
    codeAny (model X.prog X.w) A (.builtin "list.extend.loop" ⟨[.ref S, .ref e, res], []⟩) R s := by
  have hline : 1000 ≤ sizeLine := small (Nat.le_refl _)
  intro k
  induction k with
  | zero =>
    intro i s H ts hk hi I hf st hB hS hts hc hR
    have hin : i = xs.length := by omega
    obtain ⟨hit, hz⟩ := st
    have q1 := hq H hB
    obtain ⟨its, rv, p1, _⟩ := I.tuple q1
    have l1' := rv.length
    have e2 : i = its.toArray.size := by rw [List.size_toArray]; omega
    refine codeAny_builtin F.entry_extend_loop ?_
    rw [Around.under_plainId F.plain_extend_loop _]
    show wpAny _ A.in1 (pyNext (.ref e) >>= _) _ _ s
    refine wpAny_bind ?_
    have fin : ∀ h', Heap.ExtBut it s.heap h' → R (.ok (.ret res)) { s with heap := h' } := fun h' hk =>
      hR _ H ts (I.turnedL (t' := s.toks) (ch := [e, it]) (fun c o hb q => hk c o (fun q' => hb (by simp [q'])) q) hf) hB hS (by omega) hc
    rcases hz with ⟨old, hz⟩ | ⟨old, T, f, oT, hz, hT, r1, r2, r3⟩
    · rw [e2] at hit hz
      exact wpAny_pyNext_enum_endD (Draws.tuple hA it a hai its.toArray) hz ⟨hit, tup_is p1⟩ fun h' hk => wpAny_pure (fin h' hk)
    · rw [e2] at hit hz
      exact pyNext_enum_end_heldD (Draws.tuple hA it a hai its.toArray) hz ⟨hit, tup_is p1⟩ fun h' hk => wpAny_pure (fin h' hk)
  | succ k ih =>
    intro i s H ts hk hi I hf st hB hS hts hc hR
    have hlt : i < xs.length := by omega
    obtain ⟨hit, hz⟩ := st
    have q1 := hq H hB
    obtain ⟨its, rv, p1, _⟩ := I.tuple q1
    obtain ⟨u, hu, ru⟩ := rv.get (List.getElem?_eq_getElem hlt)
    have lt : ∀ {c o}, s.heap.get? c = some o → s.heap.objs.size ≠ c := fun e => Nat.ne_of_gt (Heap.lt_size e)
    have nit : s.heap.objs.size ≠ it := let ⟨_, e, _⟩ := hit; lt e
    have hfr : H s.heap.objs.size = none := I.hok.fresh (Nat.le_refl _)
    have nNS : S ≠ s.heap.objs.size := ne_of_none hS hfr
    refine codeAny_builtin F.entry_extend_loop ?_
    rw [Around.under_plainId F.plain_extend_loop _]
    show wpAny _ A.in1 (pyNext (.ref e) >>= _) _ _ s
    refine wpAny_bind ?_
    have ne : s.heap.objs.size ≠ e := by
      rcases hz with ⟨_, hz⟩ | ⟨_, _, _, _, hz, _⟩
      · exact lt hz
      · exact lt hz
    have hsz : i < its.toArray.size := by have h1 := rv.length; rw [List.size_toArray]; omega
    -- one step on
    have on : ∀ x' h' tk, its.toArray[i]? = some x' → h'.get? s.heap.objs.size = some { cls := .type "tuple", data := .seq #[.int i tk, x'] } → (∀ c o, c ≠ e → c ≠ it → s.heap.get? c = some o → h'.get? c = some o) → est e it a S (i + 1) h' →
        wpAny (model X.prog X.w) A.in1 (updateSeq S (·.push (.ref s.heap.objs.size)) >>= fun _ => again (.builtin "list.extend.loop" ⟨[.ref S, .ref e, res], []⟩))
          (fun fin s' => match fin with | .done f => R (.ok f) s' | .again c' => c'.quiet = true ∧ codeAny (model X.prog X.w) A c' R s') (fun e s' => R (.error e) s') { s with heap := h', toks := tk + 1 } := by
      intro x' h' tk hP a5 hk' st'
      have ex : x' = u := by
        have h1 : its[i]? = some x' := by simpa using hP
        rw [hu] at h1
        exact (Option.some.inj h1).symm
      subst ex
      have new : ObjOk X.prog X.w (upd H s.heap.objs.size (.tup [.int (i : Nat), xs[i]])) h' s.heap.objs.size (.tup [.int (i : Nat), xs[i]]) :=
        ⟨by show 2 ≤ sizeLine; decide, [.int i tk, x'], .cons ⟨_, rfl⟩ (.cons ru .nil), ⟨_, a5, rfl, _, rfl⟩⟩
      have I1 : Inv X pins σ (upd H s.heap.objs.size (.tup [.int (i : Nat), xs[i]])) { s with heap := h', toks := tk + 1 } :=
        I.turnedNew (t' := tk + 1) (ch := [e, it]) (fun c o hb q => hk' c o (fun q' => hb (by simp [q'])) (fun q' => hb (by simp [q'])) q) hf (Nat.le_refl _) new
      have hS1 : (upd H s.heap.objs.size (.tup [.int (i : Nat), xs[i]])) S = some (.lst (ts.map V.ref)) := by rw [upd_ne nNS]; exact hS
      obtain ⟨hz1, its3, n3, rv3, hl3, hS3⟩ := I1.lstM hS1
      have hl3' : its3.length = i := by rw [← hl3, List.length_map, hts]
      have I2 := I1.lset (f := (·.push (.ref s.heap.objs.size))) (ys := (ts ++ [s.heap.objs.size]).map V.ref) (its' := its3 ++ [.ref s.heap.objs.size]) (t' := tk + 1) hS1 hS3 (by simp) (by rw [List.map_append]; exact rv3.append (.cons rfl .nil)) (by rw [List.length_map, List.length_append, hts]; show i + 1 ≤ sizeLine; omega)
      refine wpAny_bind ?_
      refine wpAny_updateSeq hS3 rfl (wpAny_pure ⟨plainId_quiet F.plain_extend_loop _, ih (i + 1) _ _ (ts ++ [s.heap.objs.size]) (by omega) hlt I2 (fun b hb => ?_) (st'.at nS.1 nS.2 fun b o hb e => (Heap.get?_update_other _ _ (Ne.symm hb)).trans e) ?_ upd_same (by rw [List.length_append, hts] <;> rfl) ?_ hR⟩) (by rw [List.size_toArray]; omega) (by simp; omega)
      · have h0 := hf b hb
        refine ⟨?_, h0.2⟩
        have nb : b ≠ s.heap.objs.size := by
          simp only [List.mem_cons, List.not_mem_nil, or_false] at hb
          rcases hb with rfl | rfl
          · exact Ne.symm ne
          · exact Ne.symm nit
        have nb2 : b ≠ S := by
          simp only [List.mem_cons, List.not_mem_nil, or_false] at hb
          rcases hb with rfl | rfl
          · exact Ne.symm nS.1
          · exact Ne.symm nS.2
        rw [upd_ne nb2, upd_ne nb]
        exact h0.1
      · exact fun c o hc e => by
          have e' := hB c o hc e
          rw [upd_ne hc, upd_ne (ne_of_none e' hfr)]
          exact e'
      · intro j t x hj hx
        by_cases c : j < i
        · rw [List.getElem?_append_left (by omega)] at hj
          have h5 := hc j t x hj hx
          have nt : t ≠ S := ne_of h5 hS (by intro w; cases w)
          rw [upd_ne nt, upd_ne (ne_of_none h5 hfr)]
          exact h5
        · have hj2 := (List.getElem?_eq_some_iff.mp hj).1
          rw [List.length_append] at hj2
          have hj3 : j < ts.length + 1 := hj2
          have : j = i := by omega
          subst this
          rw [List.getElem?_append_right (by omega), hts, Nat.sub_self] at hj
          cases (Option.some.inj hj)
          rw [List.getElem?_eq_getElem hlt] at hx
          cases (Option.some.inj hx)
          rw [upd_ne (Ne.symm nNS), upd_same]
    have ei : ((i + 1 : Nat) : Int) = (i : Int) + 1 := by omega
    rcases hz with ⟨old, hz⟩ | ⟨old, T, f, oT, hz, hT, r1, r2, r3⟩
    · refine wpAny_pyNext_enum_itemD (Draws.tuple hA it a hai its.toArray) hz ⟨hit, tup_is p1⟩ hsz hei (by simp [hei, hea]) fun x' h' tk hP ho hst' hT' hsz' hk' => ?_
      exact on x' h' tk hP hT' hk' ⟨hst'.1, .inr ⟨x', s.heap.objs.size, false, _, by rw [ei]; exact ho, hT', ne, nit, Ne.symm nNS⟩⟩
    · refine pyNext_enum_heldD (Draws.tuple hA it a hai its.toArray) hz hT r1 r2 ⟨hit, tup_is p1⟩ hsz hei (by simp [hei, hea]) fun x' h' tk hP ho hst' hT' hsz' hk' => ?_
      exact on x' h' tk hP hT' hk' ⟨hst'.1, .inr ⟨old, T, true, oT, by rw [ei]; exact ho, hk' _ _ r1 r2 hT, r1, r2, r3⟩⟩
theorem list_of_enum {X : Cx} {pins : List (Addr × Obj)} {σ : L2.St} {H : Hp} {s : Shared} (I : Inv X pins σ H s) (hcalm : X.calm = true) {e it a : Addr} (hai : a ≠ it) (hei : e ≠ it) (hea : e ≠ a) {xs : List V} (h1000 : xs.length ≤ 1000)
    (he : IsEnum s.heap e it ((0 : Nat) : Int) .none) (hit : s.heap.IsTupleIter it a 0)
    (hf : ∀ b ∈ [e, it], FpOk X pins H b) (hq1 : SqT X.K H a xs) {Q : VK}
    (q : ∀ S ts H2, Same H H2 → H S = none → H2 S = some (.lst (ts.map V.ref)) → ts.length = xs.length → IxAt H2 ts xs → Q (.ref S) H2) :
    wpAny (model X.prog X.w) X.A (call (.type "list") [.ref e]) (EP X pins σ Q) X.xe s := by
  have hh : X.A.in1.in1.in1.handled = none := show X.A.handled = none from I.ok.hd hcalm
  have ne : s.heap.objs.size ≠ e := Nat.ne_of_gt (Heap.lt_size he)
  have nit : s.heap.objs.size ≠ it := let ⟨_, e, _⟩ := hit; Nat.ne_of_gt (Heap.lt_size e)
  have hfr : H s.heap.objs.size = none := I.hok.fresh (Nat.le_refl _)
  refine callType_codes (Q₁ := fun obj s₁ => obj = .ref s.heap.objs.size ∧ s₁ = { s with heap := s.heap.push { cls := .type "list", data := .seq #[] } }) F.called_list (F.typeCall_list_1 _) F.entry_list_init
    (code_list_new _ ⟨rfl, rfl⟩) fun obj s₁ h₁ => ?_
  obtain ⟨rfl, rfl⟩ := h₁
  have hS : (s.heap.push { cls := .type "list", data := .seq #[] }).get? s.heap.objs.size = some { cls := .type "list", data := .seq #[] } := Heap.get?_push_size _ rfl
  refine ⟨⟨_, hS, rfl⟩, F.args_list_init_2 _ _, ?_⟩
  show wpAny _ X.A.in1.in1 (do let old ← Builtin.List.listItems (.ref s.heap.objs.size); Builtin.List.listUpdate (.ref s.heap.objs.size) (fun _ => #[]); letGo old.toList.reverse; Builtin.List.listExtendWith (.ref s.heap.objs.size) (.ref e) .none) _ _ _
  refine wpAny_bind ?_
  unfold Builtin.List.listItems
  refine wpAny_bind (wpAny_seqItems hS rfl (wpAny_pure ?_))
  show wpAny _ X.A.in1.in1 (updateSeq s.heap.objs.size (fun _ => #[]) >>= fun _ => letGo (#[] : Array Value).toList.reverse >>= fun _ => Builtin.List.listExtendWith (.ref s.heap.objs.size) (.ref e) .none) _ _ _
  refine wpAny_bind (wpAny_updateSeq hS rfl ?_)
  have hS₂ := Heap.get?_update_self (Obj.mapSeq (fun _ => (#[] : Array Value))) hS rfl
  have oth : ∀ b o, b ≠ s.heap.objs.size → s.heap.get? b = some o → ((s.heap.push { cls := .type "list", data := .seq #[] }).update s.heap.objs.size (Obj.mapSeq (fun _ => (#[] : Array Value)))).get? b = some o :=
    fun b o hb e => (Heap.get?_update_other _ _ (Ne.symm hb)).trans (Heap.get?_push_of_some _ e)
  refine wpAny_bind (wpAny_letGo ?_)
  generalize hh2 : (s.heap.push { cls := .type "list", data := .seq #[] }).update s.heap.objs.size (Obj.mapSeq (fun _ => (#[] : Array Value))) = hp2 at hS₂ oth
  unfold Builtin.List.listExtendWith
  refine wpAny_bind (wpAny_typeOf (T := "enumerate") ⟨_, oth _ _ (Ne.symm ne) he, rfl⟩ ?_)
  have g1 : Builtin.List.listSameRef (.ref s.heap.objs.size) (.ref e) = false := by simp [Builtin.List.listSameRef, ne]
  have g2 : (Value.type "enumerate" == Value.type "list") = false := by decide
  have g3 : (Value.type "enumerate" == Value.type "tuple") = false := by decide
  simp only [g1, g2, g3, Bool.or_false, Bool.false_eq_true, if_false]
  refine wpAny_bind (wpAny_pyIter_enum (oth _ _ (Ne.symm ne) he) ?_)
  refine wpAny_bind (wpAny_holding ?_)
  unfold Builtin.List.listLengthHint
  refine wpAny_bind (wpAny_specialOf (T := "enumerate") ⟨_, oth _ _ (Ne.symm ne) he, rfl⟩ enum_no_len' ?_)
  show wpAny _ X.A.in1.in1 (specialOf (Value.ref e) (Str.ofString "__length_hint__") >>= _) _ _ _
  refine wpAny_bind (wpAny_specialOf (T := "enumerate") ⟨_, oth _ _ (Ne.symm ne) he, rfl⟩ enum_no_hint' ?_)
  refine wpAny_pure ?_
  show wpAny _ X.A.in1.in1 (rule "list.extend.makes-room" >>= fun _ => Builtin.List.listTouch (.ref s.heap.objs.size) >>= fun _ =>
    again (.builtin "list.extend.loop" ⟨[.ref s.heap.objs.size, .ref e, .none], []⟩)) _ _ _
  refine wpAny_bind (wpAny_rule ?_)
  refine wpAny_bind ?_
  show wpAny _ X.A.in1.in1 (updateSeq s.heap.objs.size (·.push .none) >>= fun _ => updateSeq s.heap.objs.size (·.pop)) _ _ _
  refine wpAny_bind (wpAny_updateSeq hS₂ rfl ?_)
  have hS₃ := Heap.get?_update_self (Obj.mapSeq (·.push Value.none)) hS₂ rfl
  refine wpAny_updateSeq (hz := by seq_fits) hS₃ rfl ?_
  have hS₄ := Heap.get?_update_self (Obj.mapSeq (·.pop)) hS₃ rfl
  have oth2 : ∀ b o, b ≠ s.heap.objs.size → s.heap.get? b = some o → ((hp2.update s.heap.objs.size (Obj.mapSeq (·.push Value.none))).update s.heap.objs.size (Obj.mapSeq (·.pop))).get? b = some o :=
    fun b o hb e => (Heap.get?_update_other _ _ (Ne.symm hb)).trans ((Heap.get?_update_other _ _ (Ne.symm hb)).trans (oth b o hb e))
  have new : ObjOk X.prog X.w (upd H s.heap.objs.size (.lst [])) ((hp2.update s.heap.objs.size (Obj.mapSeq (·.push Value.none))).update s.heap.objs.size (Obj.mapSeq (·.pop))) s.heap.objs.size (.lst []) :=
    ⟨Nat.zero_le _, [], _, .nil, hS₄⟩
  have I1 : Inv X pins σ (upd H s.heap.objs.size (.lst [])) { s with heap := (hp2.update s.heap.objs.size (Obj.mapSeq (·.push Value.none))).update s.heap.objs.size (Obj.mapSeq (·.pop)) } :=
    I.laid (t' := s.toks) (fun b u e => oth2 b u (Nat.ne_of_lt (Heap.lt_size e)) e) (Nat.le_refl _) new
  have S1 := same_new hfr (.lst [])
  refine wpAny_pure ⟨plainId_quiet F.plain_extend_loop _, ext_enum (A := X.A.in1) (R := wants (fun r s₂ => r = Value.none ∧ EP X pins σ Q (Value.ref s.heap.objs.size) s₂) X.xe) hh hai hei hea h1000 ⟨ne, nit⟩ .none (upd H s.heap.objs.size (.lst [])) (fun H' B' => ?_) (xs.length - 0) 0 _ _ [] rfl (Nat.zero_le _) I1 (fun b hb => ?_) ?_ But.refl upd_same rfl (fun j t x hj => by simp at hj) fun s' H' ts' I' B' hS' hl' hp' => ⟨rfl, .ref s.heap.objs.size, H', I', rfl, q _ ts' H' (but_same hfr S1 B') hfr hS' hl' hp'⟩⟩
  · exact same_tup (but_same hfr S1 B') hq1
  · have h0 := hf b hb
    refine ⟨?_, h0.2⟩
    have nb2 : b ≠ s.heap.objs.size := by
      simp only [List.mem_cons, List.not_mem_nil, or_false] at hb
      rcases hb with rfl | rfl
      · exact Ne.symm ne
      · exact Ne.symm nit
    rw [upd_ne nb2]
    exact h0.1
  · exact ⟨hit.at fun o q => oth2 _ o (Ne.symm nit) q, .inl ⟨.none, oth2 _ _ (Ne.symm ne) he⟩⟩
def tListEnT (K : PySem.W.Frag) (ta : TA) : TE := fun σ H Q => ta σ H fun vs H1 => ∃ a xs, vs = [.ref a] ∧ SqT K H1 a xs ∧ xs.length ≤ 1000 ∧
  ∀ S ts H2, Same H1 H2 → H1 S = none → H2 S = some (.lst (ts.map V.ref)) → ts.length = xs.length → IxAt H2 ts xs → Q (.ref S) H2
theorem pe_listEnT {X : Cx} {e : Expr} {ta : TA} {p p2 pos pos2 : Pos} (hc : X.calm = true) (hg0 : Gl X "list") (hm0 : X.mg "list" = none) (hg : Gl X "enumerate") (hm : X.mg "enumerate" = none) (ha : PA X [e] ta)
    (hs : starEach [e] X.env = (false, eval e X.env) :: starEach [] X.env := by rfl) (hpl : (backTo pos2 (starEach [] X.env)).any (·.1) = false := by rfl)
    (na : starEach [.Call (.Name "enumerate" p2) [e] [] pos2] X.env = (false, eval (.Call (.Name "enumerate" p2) [e] [] pos2) X.env) :: starEach [] X.env := by rfl) :
    PE X (.Call (.Name "list" p) [.Call (.Name "enumerate" p2) [e] [] pos2] [] pos) (tListEnT X.K ta) := by
  refine ⟨fun pins s σ H Q I h => ?_⟩
  refine Call_ (ld_blt I hg0 hm0 boot_list (PyProof.Rows.callWith_type1 (args_cons ?_ na) na))
  refine Call_ (ld_blt I hg hm boot_enumerate (PyProof.Rows.callWith_type1 (thn (ha.run pos2 pins s σ H _ I h) fun us s1 ⟨vs, H1, I1, r1, q1⟩ => ?_) hs hpl))
  obtain ⟨a, xs, ex, hqx, h1000, q⟩ := q1
  subst ex
  cases r1 with
  | cons r rr =>
    cases rr
    cases r
    obtain ⟨its, rv, p', hz⟩ := I1.tuple hqx
    have hal : a < s1.heap.objs.size := by obtain ⟨o, ho, _⟩ := p'; exact Heap.lt_size ho
    refine call_enumerate_tup (tup_is p') fun h' he hit hsz hk => args_nil ?_
    have I2 : Inv X pins σ H1 { s1 with heap := h' } := I1.kept (t' := s1.toks) hk
    refine list_of_enum (s := { s1 with heap := h' }) I2 hc (Nat.ne_of_lt hal) (Nat.succ_ne_self _) (Nat.ne_of_gt (Nat.lt_succ_of_lt hal)) h1000 he hit (fun b hb => ?_) hqx q
    have e' : b = s1.heap.objs.size + 1 ∨ b = s1.heap.objs.size := by simpa using hb
    have hle : s1.heap.objs.size ≤ b := by
      rcases e' with z | z
      · rw [z]; exact Nat.le_add_right _ _
      · rw [z]; exact Nat.le_refl _
    exact I1.fpOk hle (I1.hok.fresh hle)
end Toy
/-! ### sum(t), a tuple of ints -/
namespace PySem
open PyProof.Rows
theorem sum_intTup {prog : Program} {w : World} {A : Around} {E : Value → Shared → Prop} {s : Shared} {l : Addr} {xs : Array (Int × Tok)} {Q : Value → Shared → Prop} (hh : A.handled = none) (hl : s.heap.IsTuple l (intItems xs))
    (h : ∀ (h' : Heap) (tk : Nat) (t' : Tok), (∀ b o, s.heap.get? b = some o → h'.get? b = some o) → Q (.int (preSum (numAt xs) xs.size) t') { s with heap := h', toks := tk }) :
    wpAny (model prog w) A (call (.builtin "sum") [.ref l]) Q E s := by
  have ll : l < s.heap.objs.size := by obtain ⟨_, ho, _⟩ := id hl; exact Heap.lt_size ho
  refine call_sum_walkG (wpAny_pyIter_tuple hl ?_)
  refine ⟨s.heap.objs.size, [s.heap.objs.size, l], [s.heap.objs.size], (intItems xs).size, fun i v => (intItems xs)[i]? = some v, fun i h => h.IsTupleIter s.heap.objs.size l i ∧ h.IsTuple l (intItems xs), numAt xs, rfl, Walks.tuple (show A.in1.handled = none from hh) s.heap.objs.size l (Nat.ne_of_lt ll) (intItems xs), ⟨⟨_, Heap.get?_push_size _ rfl, rfl, rfl⟩, hl.push _⟩, fun b hb => ?_, fun i v => intItems_at, fun h' tk t' hk => ?_⟩
  · have e' : b = s.heap.objs.size ∨ b = l := by simpa using hb
    rw [Heap.size_push]
    rcases e' with z | z
    · rw [z]; exact Nat.lt_succ_self _
    · rw [z]; exact Nat.lt_succ_of_lt ll
  · have kk : ∀ b o, s.heap.get? b = some o → h'.get? b = some o := fun b o e => by
      refine hk b o (fun z => ?_) (Heap.get?_push_of_some _ e)
      have z : b = s.heap.objs.size := by simpa using z
      have := Heap.lt_size e
      rw [z] at this
      exact absurd this (Nat.lt_irrefl _)
    have := h h' tk t' kk
    rw [show (intItems xs).size = xs.size from Array.size_map]
    exact this
end PySem
namespace Toy
open PySem PySem.Spec PyProof.Rows L2
theorem sum_rawT {prog : Program} {w : World} {A : Around} {E : Value → Shared → Prop} {s : Shared} {l : Addr} {its : List Value} {ns : List Int} {Q : Value → Shared → Prop} (hh : A.handled = none) (hl : s.heap.IsTuple l its.toArray) (hi : IntsAre its ns)
    (h : ∀ (h' : Heap) (tk : Nat) (t' : Tok), (∀ b o, s.heap.get? b = some o → h'.get? b = some o) → Q (.int ns.sum t') { s with heap := h', toks := tk }) : wpAny (model prog w) A (call (.builtin "sum") [.ref l]) Q E s := by
  obtain ⟨xs, e⟩ := hi.allInts.items
  have hn := hi.numsOf
  rw [e] at hl
  refine sum_intTup hh hl fun h' tk t' hk => ?_
  have := h h' tk t' hk
  rw [preSum_eq, List.take_of_length_le (by simp)]
  have e2 : numsOf (intItems xs).toList = ns := by rw [← e]; exact hn
  rw [nums_intItems xs] at e2
  rw [e2]
  exact this
def rSumT (K : PySem.W.Frag) : List V → Hp → VK → Prop := fun vs H Q => ∃ (a : Addr) (ns : List Int), vs = [V.ref a] ∧ SqT K H a (ns.map V.int) ∧ Q (.int ns.sum) H
theorem cr_sumT {X : Cx} (hc : X.calm = true) : CallR X (.builtin "sum") (rSumT X.K) := by
  intro pins s σ H xs us Q I r h
  obtain ⟨a, ns, rfl, hq, q⟩ := h
  obtain ⟨u, rfl, rx⟩ := vals1 r
  cases rx
  obtain ⟨its, rv, p, _⟩ := I.tuple hq
  exact sum_rawT (I.ok.hd hc) p rv.ints fun h' tk t' hk => ⟨.int ns.sum, H, I.kept hk, ⟨_, rfl⟩, q⟩
/-! ### text * int, some text -/
def rMulS : R2 := fun x y H Q => ∃ (z : Str) (k : Int), x = .str z ∧ y = .int k ∧ 0 ≤ k ∧ k ≤ 1000 ∧ z.length ≤ 1000 ∧ ∀ r : Str, Q (.str r) H
theorem fold_rep_size {α : Type} (a : Array α) : ∀ (n : Nat) (acc : Array α), (List.foldl (fun x1 x2 => x1 ++ x2) acc (List.replicate n a)).size = acc.size + n * a.size
  | 0, acc => by simp
  | n + 1, acc => by
    rw [List.replicate_succ, List.foldl_cons, fold_rep_size a n (acc ++ a), Array.size_append, Nat.add_mul, Nat.one_mul]
    omega
theorem op_mulS {X : Cx} : OpR X (binaryOp .Mult) rMulS := by
  rintro pins s σ H x y v u Q I ra rb ⟨z, k, rfl, rfl, k0, k1, zl, q⟩
  obtain ⟨t, rfl⟩ := ra
  obtain ⟨tk, rfl⟩ := rb
  refine wpAny_binaryOp_repeat (T := "str") (U := "int") (by decide) (fun s2 => typeIs_str s2 z t) (fun s2 => typeIs_int s2 k tk) noFill_str_mul F.fills_int_mul F.slot_int_rmul repeat_str F.slot_int_index.lookup ?_
  have a1 : (decide (k < -2 ^ 63) || decide (k ≥ 2 ^ 63)) = false := by rw [decide_eq_false (by omega), decide_eq_false (by omega)] <;> rfl
  have a2 : ¬ k < 1 → (k == 1 || z.length == 0) = false → ¬ (z.length : Int) > (2 ^ 63 - 1) / k := fun h1 _ h2 => by
    have h3 : (1000 : Int) ≤ (2 ^ 63 - 1) / k := by
      rw [Int.le_ediv_iff_mul_le (by omega)]
      omega
    omega
  have a3 : ¬ k < 1 → (k == 1 || z.length == 0) = false → Builtin.Str.tooLong (z.length * k.toNat) = false := fun h1 _ => by
    have h3 : z.length * k.toNat ≤ 1000 * 1000 := Nat.mul_le_mul zl (by omega)
    have h4 : 1000 * 1000 ≤ sizeLine := by decide
    unfold Builtin.Str.tooLong
    exact decide_eq_false (by omega)
  refine call_gives F.slot_int_rmul (typeIs_int s k tk) F.entry_int_rmul (F.args_int_rmul_2 _ _) (AutoIntG1.int___rmul___int_str_0 _ _ _ _) ?_
  refine ⟨rfl, ?_⟩
  refine call_gives F.slot_str_mul (typeIs_str _ z t) F.entry_str_mul (F.args_str_mul_2 _ _) (gives_str_mul z k t tk a1 a2 a3) ?_
  split
  · exact ⟨by decide, .str _, H, I.tok _, ⟨_, rfl⟩, q _⟩
  · split
    · exact ⟨.str _, H, I, ⟨_, rfl⟩, q _⟩
    · refine ⟨?_, .str _, H, I.tok _, ⟨_, rfl⟩, q _⟩
      have h3 : k.toNat * z.length ≤ 1000 * 1000 := Nat.mul_le_mul (by omega) zl
      show (List.foldl (fun x1 x2 => x1 ++ x2) #[] (List.replicate k.toNat z.cps)).size ≤ sizeLine
      rw [fold_rep_size]
      exact Nat.le_trans (show #[].size + k.toNat * z.length ≤ 1000 * 1000 by rw [show (#[] : Array Nat).size = 0 from rfl]; omega) (by decide)
end Toy
/-! ### data that is compared: no truths in it -/
namespace Toy
open PySem PySem.Spec PyProof.Rows L2
mutual
def nb : PyData → Bool
  | .none => true
  | .bool _ => false
  | .int _ => true
  | .str _ => true
  | .list ds => nbs ds
  | .tuple ds => nbs ds
  | .dict _ => false
def nbs : List PyData → Bool
  | [] => true
  | d :: ds => nb d && nbs ds
end
theorem nbs_of : ∀ {ds : List PyData}, (∀ d ∈ ds, nb d = true) → nbs ds = true
  | [], _ => by simp [nbs]
  | d :: ds, h => by simp [nbs, h d List.mem_cons_self, nbs_of (ds := ds) fun x hx => h x (List.mem_cons_of_mem _ hx)]
mutual
theorem eqv_nb : ∀ d e : PyData, nb d = true → nb e = true → PyData.eqv d e = true → d = e
  | .none, e, _, h, q => by cases e <;> simp_all [PyData.eqv, nb]
  | .int i, e, _, h, q => by cases e <;> simp_all [PyData.eqv, nb]
  | .str x, e, _, h, q => by cases e <;> simp_all [PyData.eqv, nb]
  | .bool _, _, h, _, _ => by simp [nb] at h
  | .dict _, _, h, _, _ => by simp [nb] at h
  | .list ds, e, h, g, q => by
    cases e with
    | list es =>
      rw [PyData.eqv] at q
      exact congrArg PyData.list (eqvs_nb ds es (by simpa [nb] using h) (by simpa [nb] using g) q)
    | _ => simp [PyData.eqv] at q
  | .tuple ds, e, h, g, q => by
    cases e with
    | tuple es =>
      rw [PyData.eqv] at q
      exact congrArg PyData.tuple (eqvs_nb ds es (by simpa [nb] using h) (by simpa [nb] using g) q)
    | _ => simp [PyData.eqv] at q
theorem eqvs_nb : ∀ ds es : List PyData, nbs ds = true → nbs es = true → PyData.eqvAll ds es = true → ds = es
  | [], [], _, _, _ => rfl
  | [], _ :: _, _, _, q => by simp [PyData.eqvAll] at q
  | _ :: _, [], _, _, q => by simp [PyData.eqvAll] at q
  | d :: ds, e :: es, h, g, q => by
    simp only [nbs, Bool.and_eq_true] at h g
    simp only [PyData.eqvAll, Bool.and_eq_true] at q
    rw [eqv_nb d e h.1 g.1 q.1, eqvs_nb ds es h.2 g.2 q.2]
end
structure Ly (n : Nat) (d : PyData) : Prop where
  can : d.canLay0 = true
  dep : d.depth ≤ n
  no : nb d = true
theorem Ly.non {n : Nat} : Ly n .none := ⟨by simp [PyData.canLay0], by simp [PyData.depth], by simp [nb]⟩
theorem Ly.int {n : Nat} {i : Int} : Ly n (.int i) := ⟨by simp [PyData.canLay0], by simp [PyData.depth], by simp [nb]⟩
theorem Ly.str {n : Nat} {x : Str} (h : (PyData.str x).canLay0 = true := by decide +kernel) : Ly n (.str x) := ⟨h, by simp [PyData.depth], by simp [nb]⟩
theorem Ly.mono {n m : Nat} {d : PyData} (a : Ly n d) (h : n ≤ m) : Ly m d := ⟨a.can, Nat.le_trans a.dep h, a.no⟩
theorem can_all : ∀ {ds : List PyData}, (∀ d ∈ ds, d.canLay0 = true) → PyData.canLayAll0 ds = true
  | [], _ => by simp [PyData.canLayAll0]
  | d :: ds, h => by simp [PyData.canLayAll0, h d List.mem_cons_self, can_all (ds := ds) fun x hx => h x (List.mem_cons_of_mem _ hx)]
theorem dep_all {n : Nat} : ∀ {ds : List PyData}, (∀ d ∈ ds, d.depth ≤ n) → PyData.depthAll ds ≤ n
  | [], _ => by simp [PyData.depthAll]
  | d :: ds, h => by
    have h1 := h d List.mem_cons_self
    have h2 := dep_all (ds := ds) fun x hx => h x (List.mem_cons_of_mem _ hx)
    simp only [PyData.depthAll]
    omega
theorem Ly.lst {n : Nat} {ds : List PyData} (h : ∀ d ∈ ds, Ly n d) : Ly (n + 1) (.list ds) :=
  ⟨by simp only [PyData.canLay0]; exact can_all fun d hd => (h d hd).can, by simp only [PyData.depth]; have := dep_all fun d hd => (h d hd).dep; omega, by simp only [nb]; exact nbs_of fun d hd => (h d hd).no⟩
theorem Ly.tup {n : Nat} {ds : List PyData} (h : ∀ d ∈ ds, Ly n d) : Ly (n + 1) (.tuple ds) :=
  ⟨by simp only [PyData.canLay0]; exact can_all fun d hd => (h d hd).can, by simp only [PyData.depth]; have := dep_all fun d hd => (h d hd).dep; omega, by simp only [nb]; exact nbs_of fun d hd => (h d hd).no⟩
theorem Ly.tupI {ns : List Int} : Ly 1 (.tuple (ns.map PyData.int)) := .tup fun d hd => by obtain ⟨i, _, rfl⟩ := List.mem_map.mp hd; exact .int
theorem Ly.lstI {ns : List Int} : Ly 1 (.list (ns.map PyData.int)) := .lst fun d hd => by obtain ⟨i, _, rfl⟩ := List.mem_map.mp hd; exact .int
theorem Ly.tup2 {n : Nat} {a b : PyData} (ha : Ly n a) (hb : Ly n b) : Ly (n + 1) (.tuple [a, b]) := .tup fun d hd => by
  rcases List.mem_cons.mp hd with rfl | hd
  · exact ha
  · cases List.mem_singleton.mp hd; exact hb
theorem Ly.sh {n : Nat} {d : PyData} (a : Ly n d) (h : n ≤ 64 := by decide) : SeqAt.shaped d = true := by
  show (d.canLay0 && decide (d.depth ≤ 64)) = true
  rw [a.can, decide_eq_true (Nat.le_trans a.dep h)] <;> rfl
theorem Ly.refl {n : Nat} {d : PyData} (a : Ly n d) (h : n ≤ 64 := by decide) : PyData.eqv d d = true := SeqAt.eqv_refl _ (SeqAt.canLay_of_shaped (a.sh h))
theorem Ly.eq {n m : Nat} {d e : PyData} (a : Ly n d) (b : Ly m e) (h : PyData.eqv d e = true) : d = e := eqv_nb d e a.no b.no h
theorem Ly.ne {n m : Nat} {d e : PyData} (a : Ly n d) (b : Ly m e) (h : d ≠ e) : PyData.eqv d e = false := by
  cases c : PyData.eqv d e with
  | false => rfl
  | true => exact absurd (a.eq b c) h
theorem dpAll_of {K : PySem.W.Frag} {H : Hp} : ∀ {xs : List V} {ds : List PyData}, xs.length = ds.length → (∀ (i : Nat) (x : V) (d : PyData), xs[i]? = some x → ds[i]? = some d → Dp K H x d) → DpAll K H xs ds
  | [], [], _, _ => .nil
  | [], _ :: _, h, _ => by simp at h
  | _ :: _, [], h, _ => by simp at h
  | x :: xs, d :: ds, h, q => .cons (q 0 x d rfl rfl) (dpAll_of (by simpa using h) fun i y e h1 h2 => q (i + 1) y e (by simpa using h1) (by simpa using h2))
theorem dp_tup2 {K : PySem.W.Frag} {H : Hp} {p : Addr} {x y : V} {a b : PyData} (h : SqT K H p [x, y]) (ha : Dp K H x a) (hb : Dp K H y b) : Dp K H (.ref p) (.tuple [a, b]) := .tup h (.cons ha (.cons hb .nil))
/-! ### data: figures of a number -/
def fig (k n at_ : Nat) : Int := Builtin.bitAnd ((n : Int) / 2 ^ (((k : Int) - 1 - at_).toNat)) 1
def figs (k n : Nat) : List Int := (List.range k).map (fig k n)
def num (fs : List Int) : Int := fs.foldl (fun f o => 2 * f + o) 0
def lline (k h g lv : Nat) : Int := num ((figs k g).take lv ++ (figs k h).drop lv)
def low (k h g lv : Nat) : Int := Builtin.bitOr ((g : Int) / 2 ^ ((k : Int) - lv).toNat * 2 ^ ((k : Int) - lv).toNat) (Builtin.bitAnd h (1 * 2 ^ ((k : Int) - lv).toNat - 1))
def nwo (k l st : Nat) : Int := Builtin.bitOr ((l : Int) / 2 ^ ((k : Int) - st + 1).toNat * 2 ^ ((k : Int) - st).toNat) (Builtin.bitAnd l (1 * 2 ^ ((k : Int) - st).toNat - 1))
def nums (k l st : Nat) : Int := num ((figs k l).take (st - 1) ++ (figs k l).drop st)
theorem low_is : ∀ k, k < 5 → ∀ h, h < 2 ^ k → ∀ g, g < 2 ^ k → ∀ lv, lv < k + 1 → low k h g lv = lline k h g lv := by decide +kernel
theorem lline_in : ∀ k, k < 5 → ∀ h, h < 2 ^ k → ∀ g, g < 2 ^ k → ∀ lv, lv < k + 1 → 0 ≤ lline k h g lv ∧ lline k h g lv < 2 ^ k := by decide +kernel
theorem nwo_is : ∀ k, k < 5 → ∀ l, l < 2 ^ k → ∀ st, st < k + 1 → st = 0 ∨ nwo k l st = nums k l st := by decide +kernel
theorem nums_same : ∀ k, k < 5 → ∀ h, h < 2 ^ k → ∀ g, g < 2 ^ k → ∀ st, st < k → nums k (lline k h g (st + 1)).toNat (st + 1) = nums k (lline k h g st).toNat (st + 1) := by decide +kernel
theorem cut_to {xs : List V} (n : Nat) : cutV xs none (some (n : Int)) = xs.take n := by
  unfold cutV
  rw [HT.sIx_nat, HT.sIx_none, List.drop_zero, Nat.sub_zero]
  by_cases c : n ≤ xs.length
  · rw [Nat.min_eq_left c]
  · rw [Nat.min_eq_right (by omega), List.take_length, List.take_of_length_le (by omega)]
theorem cut_from {xs : List V} (n : Nat) : cutV xs (some (n : Int)) none = xs.drop n := by
  unfold cutV
  rw [HT.sIx_nat, HT.sIx_none]
  by_cases c : n ≤ xs.length
  · rw [Nat.min_eq_left c]
    exact List.take_of_length_le (by rw [List.length_drop]; omega)
  · rw [Nat.min_eq_right (by omega), Nat.sub_self, List.take_zero, List.drop_of_length_le (by omega)]
theorem bits_one : Builtin.Int.intBits 1 ≤ 10 := by decide +kernel
theorem shl_ok {n : Nat} (h : n ≤ 1000) : CShl 1 (n : Int) := by
  have := bits_one
  exact ⟨by omega, by omega⟩
theorem shl_small {i j : Int} (h : i.natAbs < 2 ^ 64) (h0 : 0 ≤ j) (h1 : j ≤ 1000) : CShl i j := by
  refine ⟨h0, ?_⟩
  have h2 := log_lt (n := 64) (by decide) h
  unfold Builtin.Int.intBits
  split <;> omega
theorem div_small {g m : Nat} (h : g < 2 ^ 64) : ((g : Int) / 2 ^ m).natAbs < 2 ^ 64 := by
  have e : (g : Int) / 2 ^ m = ((g / 2 ^ m : Nat) : Int) := by push_cast; rfl
  rw [e, Int.natAbs_natCast]
  exact Nat.lt_of_le_of_lt (Nat.div_le_self _ _) h
theorem pow16 {k g : Nat} (hk : k ≤ 4) (h : g < 2 ^ k) : g < 16 := Nat.lt_of_lt_of_le h (Nat.pow_le_pow_right (by decide) hk : 2 ^ k ≤ 2 ^ 4)
def Bits (fs : List Int) : Prop := (∀ x ∈ fs, 0 ≤ x ∧ x ≤ 1) ∧ fs.length ≤ 10
theorem figs_all : ∀ k, k < 5 → ∀ n, n < 2 ^ k → (figs k n).all (fun x => decide (0 ≤ x) && decide (x ≤ 1)) = true := by decide +kernel
theorem figs_bits {k n : Nat} (h : k ≤ 4) (hn : n < 2 ^ k) : Bits (figs k n) := by
  have h1 := figs_all k (by omega) n hn
  rw [List.all_eq_true] at h1
  refine ⟨fun x hx => ?_, by unfold figs; rw [List.length_map, List.length_range]; omega⟩
  have := h1 x hx
  simpa using this
theorem Bits.cat {k : Nat} {xs ys : List Int} (h : k ≤ 4) (a : ∀ x ∈ xs, 0 ≤ x ∧ x ≤ 1) (b : ∀ x ∈ ys, 0 ≤ x ∧ x ≤ 1) (i j : Nat) (hx : xs.length ≤ 5) (hy : ys.length ≤ 5) : Bits (xs.take i ++ ys.drop j) := by
  refine ⟨fun x hm => ?_, by rw [List.length_append, List.length_take, List.length_drop]; omega⟩
  rcases List.mem_append.mp hm with h | h
  · exact a x (List.mem_of_mem_take h)
  · exact b x (List.mem_of_mem_drop h)
theorem num_snoc {fs : List Int} {x : Int} : num (fs ++ [x]) = 2 * num fs + x := by unfold num; rw [List.foldl_append] <;> rfl
theorem num_in : ∀ {fs : List Int} (n : Nat), Bits fs → 0 ≤ num (fs.take n) ∧ num (fs.take n) < 2 ^ n := by
  intro fs n h
  induction n with
  | zero => rw [List.take_zero]; exact ⟨by decide, by decide⟩
  | succ n ih =>
    by_cases c : n < fs.length
    · rw [List.take_succ_eq_append_getElem c, num_snoc]
      have := h.1 _ (List.getElem_mem c)
      have e : (2 : Int) ^ (n + 1) = 2 ^ n * 2 := Int.pow_succ 2 n
      omega
    · rw [List.take_of_length_le (by omega)]
      rw [List.take_of_length_le (by omega)] at ih
      have e : (2 : Int) ^ (n + 1) = 2 ^ n * 2 := Int.pow_succ 2 n
      omega
theorem figs_len {k n : Nat} : (figs k n).length = k := by unfold figs; rw [List.length_map, List.length_range]
theorem repF_len {n : Nat} : ((List.replicate n false).map V.bl).length = n := by rw [List.length_map, List.length_replicate]
theorem repF_snoc {n : Nat} : (List.replicate n false).map V.bl ++ [V.bl false] = (List.replicate (n + 1) false).map V.bl := by rw [List.replicate_succ', List.map_append] <;> rfl
theorem repF_any (n : Nat) : (List.replicate n false).any id = false := by
  induction n with
  | zero => rfl
  | succ n ih => rw [List.replicate_succ, List.any_cons, ih] <;> rfl
def SwAt (H : Hp) (T : Addr) (k h g : Nat) : Prop := ∃ as : List Addr, H T = some (.tup (as.map V.ref)) ∧ as.length = k ∧ ∀ (j : Nat) (a : Addr), as[j]? = some a → H a = some (.tup [.int ((j + 1 : Nat) : Int), .int (nwo k (lline k h g j).toNat (j + 1))])
theorem primes6 : ∀ j : Nat, j < 6 → ∃ z : Int, ([.int 2147483647, .int 2147483629, .int 2147483587, .int 2147483579, .int 2147483563, .int 2147483549] : List V)[j]? = some (.int z) ∧ 2147483549 ≤ z ∧ z ≤ 2147483647
  | 0, _ => ⟨_, rfl, by decide, by decide⟩
  | 1, _ => ⟨_, rfl, by decide, by decide⟩
  | 2, _ => ⟨_, rfl, by decide, by decide⟩
  | 3, _ => ⟨_, rfl, by decide, by decide⟩
  | 4, _ => ⟨_, rfl, by decide, by decide⟩
  | 5, _ => ⟨_, rfl, by decide, by decide⟩
  | n + 6, h => absurd h (by omega)
/-! ### rows of pairs -/
def PtsAt (H : Hp) (ts : List Addr) (ps : List (Nat × Nat)) : Prop := ts.length = ps.length ∧ ∀ (j : Nat) (t : Addr) (p : Nat × Nat), ts[j]? = some t → ps[j]? = some p → H t = some (.tup [.int (p.1 : Nat), .int (p.2 : Nat)])
theorem PtsAt.same {H H' : Hp} {ts : List Addr} {ps : List (Nat × Nat)} (e : Same H H') (h : PtsAt H ts ps) : PtsAt H' ts ps := ⟨h.1, fun j t p h1 h2 => e _ _ (h.2 j t p h1 h2)⟩
theorem PtsAt.app {H : Hp} {ts us : List Addr} {ps qs : List (Nat × Nat)} (a : PtsAt H ts ps) (b : PtsAt H us qs) : PtsAt H (ts ++ us) (ps ++ qs) := by
  refine ⟨by rw [List.length_append, List.length_append, a.1, b.1], fun j t p h1 h2 => ?_⟩
  by_cases c : j < ts.length
  · rw [List.getElem?_append_left c] at h1
    rw [List.getElem?_append_left (by rw [← a.1]; exact c)] at h2
    exact a.2 j t p h1 h2
  · rw [List.getElem?_append_right (by omega)] at h1
    rw [List.getElem?_append_right (by rw [← a.1]; omega)] at h2
    rw [← a.1] at h2
    exact b.2 _ t p h1 h2
theorem PtsAt.one {H : Hp} {t : Addr} {p : Nat × Nat} (h : H t = some (.tup [.int (p.1 : Nat), .int (p.2 : Nat)])) : PtsAt H [t] [p] := by
  refine ⟨rfl, fun j t' p' h1 h2 => ?_⟩
  cases j with
  | zero => cases (Option.some.inj h1); cases (Option.some.inj h2); exact h
  | succ j => simp at h1
theorem PtsAt.keep {H H' : Hp} {ts : List Addr} {ps : List (Nat × Nat)} (h : PtsAt H ts ps) (k : ∀ t xs, H t = some (.tup xs) → H' t = some (.tup xs)) : PtsAt H' ts ps :=
  ⟨h.1, fun j t p h1 h2 => k _ _ (h.2 j t p h1 h2)⟩
/-- each is a pair of a hand and a side -/
def APr (H : Hp) (k : Nat) (ts : List Addr) : Prop := ∀ t ∈ ts, ∃ h g : Nat, H t = some (.tup [.int (h : Nat), .int (g : Nat)]) ∧ h < 2 ^ k ∧ g < 2 ^ k
theorem APr.same {H H' : Hp} {k : Nat} {ts : List Addr} (e : Same H H') (a : APr H k ts) : APr H' k ts := fun t ht => by
  obtain ⟨h, g, h1, h2⟩ := a t ht
  exact ⟨h, g, e _ _ h1, h2⟩
theorem APr.keep {H H' : Hp} {k : Nat} {ts : List Addr} (e : ∀ t xs, H t = some (.tup xs) → H' t = some (.tup xs)) (a : APr H k ts) : APr H' k ts := fun t ht => by
  obtain ⟨h, g, h1, h2⟩ := a t ht
  exact ⟨h, g, e _ _ h1, h2⟩
theorem APr.sub {H : Hp} {k : Nat} {ts us : List Addr} (a : APr H k ts) (h : ∀ t ∈ us, t ∈ ts) : APr H k us := fun t ht => a t (h t ht)
theorem APr.app {H : Hp} {k : Nat} {ts us : List Addr} (a : APr H k ts) (b : APr H k us) : APr H k (ts ++ us) := fun t ht => (List.mem_append.mp ht).elim (a t) (b t)
theorem APr.pts {H : Hp} {k : Nat} : ∀ {ts : List Addr}, APr H k ts → ∃ ps, PtsAt H ts ps ∧ ∀ p ∈ ps, p.1 < 2 ^ k ∧ p.2 < 2 ^ k
  | [], _ => ⟨[], ⟨rfl, fun j t p h => by simp at h⟩, fun p hp => absurd hp List.not_mem_nil⟩
  | t :: ts, a => by
    obtain ⟨h, g, h1, h2, h3⟩ := a t List.mem_cons_self
    obtain ⟨ps, q1, q2⟩ := APr.pts (a.sub fun t ht => List.mem_cons_of_mem _ ht)
    refine ⟨(h, g) :: ps, PtsAt.app (ts := [t]) (ps := [(h, g)]) (PtsAt.one h1) q1, fun p hp => ?_⟩
    rcases List.mem_cons.mp hp with e | e
    · rw [e]; exact ⟨h2, h3⟩
    · exact q2 p e
theorem PtsAt.rev {H : Hp} {ts : List Addr} {ps : List (Nat × Nat)} (a : PtsAt H ts ps) : PtsAt H ts.reverse ps.reverse := by
  refine ⟨by rw [List.length_reverse, List.length_reverse, a.1], fun j t p h1 h2 => ?_⟩
  have l1 := (List.getElem?_eq_some_iff.mp h1).1
  have l2 := (List.getElem?_eq_some_iff.mp h2).1
  rw [List.length_reverse] at l1 l2
  rw [List.getElem?_reverse l1] at h1
  rw [List.getElem?_reverse l2] at h2
  rw [← a.1] at h2
  exact a.2 _ t p h1 h2
theorem APr.rev {H : Hp} {k : Nat} {ts : List Addr} (a : APr H k ts) : APr H k ts.reverse := a.sub fun t ht => List.mem_reverse.mp ht
/-! ### the first shared line: the plain law -/
def lns (k : Nat) (ps : List (Nat × Nat)) (lv : Nat) : List Int := ps.map fun p => lline k p.1 p.2 lv
def Rp (L : List Int) (x : Int) : Prop := 1 < L.count x
def Fst (f : Nat → List Int) (k : Nat) : Option (Nat × Int) → Prop
  | none => ∀ lv, lv ≤ k → ∀ x, ¬ Rp (f lv) x
  | some (lv, x) => lv ≤ k ∧ Rp (f lv) x ∧ (∀ y, Rp (f lv) y → x ≤ y) ∧ ∀ lv', lv' < lv → ∀ y, ¬ Rp (f lv') y
theorem Fst.uniq {f : Nat → List Int} {k : Nat} {r r' : Option (Nat × Int)} (a : Fst f k r) (b : Fst f k r') : r = r' := by
  cases r with
  | none =>
    cases r' with
    | none => rfl
    | some p =>
      obtain ⟨lv, x⟩ := p
      obtain ⟨b1, b2, _⟩ := b
      exact absurd b2 (a lv b1 x)
  | some p =>
    obtain ⟨lv, x⟩ := p
    obtain ⟨a1, a2, a3, a4⟩ := a
    cases r' with
    | none => exact absurd a2 (b lv a1 x)
    | some p' =>
      obtain ⟨lv', x'⟩ := p'
      obtain ⟨b1, b2, b3, b4⟩ := b
      have e : lv = lv' := by
        rcases Nat.lt_trichotomy lv lv' with c | c | c
        · exact absurd a2 (b4 lv c x)
        · exact c
        · exact absurd b2 (a4 lv' c x')
      subst e
      have e2 : x = x' := Int.le_antisymm (a3 x' b2) (b3 x a2)
      rw [e2]
theorem Fst.perm {f g : Nat → List Int} {k : Nat} {r : Option (Nat × Int)} (h : ∀ lv, (f lv).Perm (g lv)) (a : Fst f k r) : Fst g k r := by
  have e : ∀ lv x, Rp (g lv) x ↔ Rp (f lv) x := fun lv x => by unfold Rp; rw [(h lv).count_eq]
  cases r with
  | none => exact fun lv hl x c => a lv hl x ((e lv x).mp c)
  | some p =>
    obtain ⟨lv, x⟩ := p
    obtain ⟨a1, a2, a3, a4⟩ := a
    exact ⟨a1, (e _ _).mpr a2, fun y hy => a3 y ((e _ _).mp hy), fun lv' h' y hy => a4 lv' h' y ((e _ _).mp hy)⟩
theorem lns_rev {k : Nat} {ps : List (Nat × Nat)} {lv : Nat} : (lns k ps.reverse lv).Perm (lns k ps lv) := by
  unfold lns
  rw [List.map_reverse]
  exact List.reverse_perm _
theorem nodup_count : ∀ {S : List Int} (y : Int), S.Nodup → S.count y ≤ 1
  | [], _, _ => by simp
  | x :: S, y, h => by
    rw [List.nodup_cons] at h
    rw [List.count_cons]
    have ih := nodup_count y h.2
    by_cases c : x = y
    · subst c
      rw [List.count_eq_zero.mpr h.1]
      split <;> omega
    · rw [if_neg (by simpa using c)]
      omega
/-- in a sorted row the first two neighbours that are alike are the least that is there twice -/
theorem sorted_next {S : List Int} (h : S.Pairwise (· ≤ ·)) {i : Nat} {x : Int} (h1 : S[i]? = some x) (h2 : S[i + 1]? = some x) : Rp S x := by
  obtain ⟨l1, e1⟩ := List.getElem?_eq_some_iff.mp h1
  obtain ⟨l2, e2⟩ := List.getElem?_eq_some_iff.mp h2
  have e : S = S.take i ++ x :: x :: S.drop (i + 2) := by
    conv => lhs; rw [← List.take_append_drop i S]
    congr 1
    rw [List.drop_eq_getElem_cons l1, List.drop_eq_getElem_cons l2, e1, e2]
  unfold Rp
  rw [e, List.count_append, List.count_cons_self, List.count_cons_self]
  omega
theorem no_next {S : List Int} (h : S.Pairwise (· ≤ ·)) {i : Nat} (hn : ∀ j x, j < i → S[j]? = some x → S[j + 1]? ≠ some x) : ∀ y, Rp S y → ∀ x, S[i]? = some x → x ≤ y := by
  intro y hy x hx
  -- else all y stand ahead of i, and no two of them beside one another
  refine Classical.byContradiction fun c => ?_
  have c2 : y < x := by omega
  obtain ⟨li, ei⟩ := List.getElem?_eq_some_iff.mp hx
  have strict : ∀ a b : Nat, ∀ (hab : a < b) (hb : b < S.length), b ≤ i → S[a]'(by omega) < S[b] := by
    intro a b hab
    induction b with
    | zero => omega
    | succ b ih =>
      intro hb hbi
      have h3 := List.pairwise_iff_getElem.mp h b (b + 1) (by omega) hb (by omega)
      have h4 : S[b]'(by omega) ≠ S[b + 1] := fun z => hn b (S[b]'(by omega)) (by omega) (List.getElem?_eq_getElem (by omega)) (by rw [List.getElem?_eq_getElem hb, z])
      rcases Nat.lt_or_ge a b with q | q
      · have := ih q (by omega) (by omega)
        omega
      · obtain rfl : a = b := by omega
        omega
  have one : (S.take (i + 1)).count y ≤ 1 := by
    have nd : (S.take (i + 1)).Nodup := by
      rw [List.nodup_iff_pairwise_ne, List.pairwise_iff_getElem]
      intro a b ha hb hab
      rw [List.length_take] at ha hb
      rw [List.getElem_take, List.getElem_take]
      have := strict a b hab (by omega) (by omega)
      omega
    exact nodup_count y nd
  have zero : (S.drop (i + 1)).count y = 0 := by
    rw [List.count_eq_zero]
    intro m
    obtain ⟨j, hj, e⟩ := List.getElem_of_mem m
    rw [List.length_drop] at hj
    rw [List.getElem_drop] at e
    have := List.pairwise_iff_getElem.mp h i (i + 1 + j) li (by omega) (by omega)
    omega
  have : S.count y = (S.take (i + 1)).count y + (S.drop (i + 1)).count y := by rw [← List.count_append, List.take_append_drop]
  unfold Rp at hy
  omega
theorem no_rep {S : List Int} (h : S.Pairwise (· ≤ ·)) (hn : ∀ j x, S[j]? = some x → S[j + 1]? ≠ some x) : ∀ y, ¬ Rp S y := by
  intro y hy
  have nd : S.Nodup := by
    rw [List.nodup_iff_pairwise_ne, List.pairwise_iff_getElem]
    intro a b ha hb hab
    have strict : ∀ b : Nat, a < b → ∀ (hb : b < S.length), S[a] < S[b] := by
      intro b hab
      induction b with
      | zero => omega
      | succ b ih =>
        intro hb
        have h3 := List.pairwise_iff_getElem.mp h b (b + 1) (by omega) hb (by omega)
        have h4 : S[b]'(by omega) ≠ S[b + 1] := fun z => hn b (S[b]'(by omega)) (List.getElem?_eq_getElem (by omega)) (by rw [List.getElem?_eq_getElem hb, z])
        rcases Nat.lt_or_ge a b with q | q
        · have := ih q (by omega)
          omega
        · obtain rfl : a = b := by omega
          omega
    have := strict b hab hb
    omega
  have := nodup_count y nd
  unfold Rp at hy
  omega
/-! settings (k35): plain facts of figures, lines and switches; wants st3d -/
def fg (k n st : Nat) : Int := Builtin.bitAnd ((n : Int) / 2 ^ ((k : Int) - st).toNat) 1
/-- the line after a switch: crossed where c is 1 -/
def stp (k : Nat) (l : Int) (st : Nat) (c : Int) : Int := Builtin.bitXor l (c * 2 ^ ((k : Int) - st).toNat)
theorem fg_fig : ∀ k, k < 5 → ∀ n, n < 2 ^ k → ∀ i, i < k → fig k n i = fg k n (i + 1) := by decide +kernel
theorem fg_bit : ∀ k, k < 5 → ∀ n, n < 2 ^ k → ∀ i, i < k → fg k n (i + 1) = 0 ∨ fg k n (i + 1) = 1 := by decide +kernel
theorem low_zero : ∀ k, k < 5 → ∀ h, h < 2 ^ k → ∀ g, g < 2 ^ k → low k h g 0 = (h : Nat) := by decide +kernel
theorem low_all : ∀ k, k < 5 → ∀ h, h < 2 ^ k → ∀ g, g < 2 ^ k → low k h g k = (g : Nat) := by decide +kernel
theorem low_step : ∀ k, k < 5 → ∀ h, h < 2 ^ k → ∀ g, g < 2 ^ k → ∀ j, j < k → low k h g (j + 1) = stp k (low k h g j) (j + 1) (Builtin.bitXor (fg k h (j + 1)) (fg k g (j + 1))) := by decide +kernel
theorem nwo_two : ∀ k, k < 5 → ∀ l : Nat, l < 2 ^ k → ∀ m : Nat, m < 2 ^ k → ∀ j, j < k → ¬ nwo k l (j + 1) = nwo k m (j + 1) ∨ l = m ∨ (m : Int) = stp k l (j + 1) 1 := by decide +kernel
theorem nwo_in : ∀ k, k < 5 → ∀ l : Nat, l < 2 ^ k → ∀ j, j < k → 0 ≤ nwo k l (j + 1) ∧ nwo k l (j + 1) < 2 ^ (k - 1) := by decide +kernel
theorem nwo_stp : ∀ k, k < 5 → ∀ l : Nat, l < 2 ^ k → ∀ j, j < k → nwo k (stp k l (j + 1) 1).toNat (j + 1) = nwo k l (j + 1) := by decide +kernel
theorem stp_in : ∀ k, k < 5 → ∀ l : Nat, l < 2 ^ k → ∀ j, j < k → 0 ≤ stp k l (j + 1) 1 ∧ stp k l (j + 1) 1 < 2 ^ k := by decide +kernel
theorem stp_zero : ∀ k, k < 5 → ∀ l : Nat, l < 2 ^ k → ∀ j, j < k → stp k l (j + 1) 0 = (l : Nat) := by decide +kernel
theorem stp_two : ∀ k, k < 5 → ∀ l : Nat, l < 2 ^ k → ∀ j, j < k → stp k (stp k l (j + 1) 1).toNat (j + 1) 1 = (l : Nat) := by decide +kernel
theorem nwo_onto : ∀ k, k < 5 → ∀ j, j < k → ∀ n, n < 2 ^ (k - 1) → ∃ l, l < 2 ^ k ∧ nwo k l (j + 1) = (n : Nat) := by decide +kernel
theorem turn_line : ∀ k, k < 5 → ∀ l : Nat, l < 2 ^ k → ∀ j, j < k → num ((figs k l).set j (1 - fig k l j)) = stp k l (j + 1) 1 := by decide +kernel
theorem stp_far : ∀ k, k < 5 → ∀ l : Nat, l < 2 ^ k → ∀ j, j < k → ∀ i, i < k → i ≠ j → fg k (stp k l (j + 1) 1).toNat (i + 1) = fg k l (i + 1) := by decide +kernel
theorem stp_near : ∀ k, k < 5 → ∀ l : Nat, l < 2 ^ k → ∀ j, j < k → fg k (stp k l (j + 1) 1).toNat (j + 1) = 1 - fg k l (j + 1) := by decide +kernel
/-- the line after j stages, by settings told as numbers -/
def la (k : Nat) (s : Nat → Nat → Int) (h : Nat) : Nat → Nat
  | 0 => h
  | j + 1 => (stp k (la k s h j : Nat) (j + 1) (s j (nwo k (la k s h j) (j + 1)).toNat)).toNat
def Bt (s : Nat → Nat → Int) : Prop := ∀ j n, s j n = 0 ∨ s j n = 1
theorem stp_bit {k l j : Nat} {c : Int} (hk : k < 5) (hl : l < 2 ^ k) (hj : j < k) (hc : c = 0 ∨ c = 1) :
    0 ≤ stp k l (j + 1) c ∧ (stp k l (j + 1) c).toNat < 2 ^ k ∧ (∀ i, i < k → i ≠ j → fg k (stp k l (j + 1) c).toNat (i + 1) = fg k l (i + 1)) ∧ fg k (stp k l (j + 1) c).toNat (j + 1) = Builtin.bitXor (fg k l (j + 1)) c := by
  rcases hc with rfl | rfl
  · rw [stp_zero k hk l hl j hj]
    refine ⟨Int.natCast_nonneg _, by rw [Int.toNat_natCast]; exact hl, fun i _ _ => by rw [Int.toNat_natCast], ?_⟩
    rw [Int.toNat_natCast]
    rcases fg_bit k hk l hl j hj with e | e <;> rw [e] <;> decide
  · have h1 := stp_in k hk l hl j hj
    refine ⟨h1.1, ?_, fun i hi hij => stp_far k hk l hl j hj i hi hij, ?_⟩
    · have h2 := h1.2
      have e : ((2 ^ k : Nat) : Int) = 2 ^ k := by push_cast; rfl
      omega
    · rw [stp_near k hk l hl j hj]
      rcases fg_bit k hk l hl j hj with e | e <;> rw [e] <;> decide
theorem la_in {k : Nat} {s : Nat → Nat → Int} {h : Nat} (hk : k < 5) (hs : Bt s) (hh : h < 2 ^ k) : ∀ j, j ≤ k → la k s h j < 2 ^ k
  | 0, _ => hh
  | j + 1, hj => (stp_bit hk (la_in hk hs hh j (by omega)) (by omega) (hs _ _)).2.1
theorem la_far {k : Nat} {s : Nat → Nat → Int} {h : Nat} (hk : k < 5) (hs : Bt s) (hh : h < 2 ^ k) : ∀ j, j ≤ k → ∀ i, j ≤ i → i < k → fg k (la k s h j) (i + 1) = fg k h (i + 1)
  | 0, _, _, _, _ => rfl
  | j + 1, hj, i, hi, hik => by
    have h1 := (stp_bit hk (la_in hk hs hh j (by omega)) (show j < k by omega) (hs j (nwo k (la k s h j) (j + 1)).toNat)).2.2.1 i hik (by omega)
    exact h1.trans (la_far hk hs hh j (by omega) i (by omega) hik)
theorem la_keep {k : Nat} {s : Nat → Nat → Int} {h : Nat} (hk : k < 5) (hs : Bt s) (hh : h < 2 ^ k) {i : Nat} : ∀ m, i + 1 + m ≤ k → fg k (la k s h (i + 1 + m)) (i + 1) = fg k (la k s h (i + 1)) (i + 1)
  | 0, _ => rfl
  | m + 1, hm => by
    have h1 := (stp_bit hk (la_in hk hs hh (i + 1 + m) (by omega)) (show i + 1 + m < k by omega) (hs (i + 1 + m) (nwo k (la k s h (i + 1 + m)) (i + 1 + m + 1)).toNat)).2.2.1 i (by omega) (by omega)
    exact h1.trans (la_keep hk hs hh m (by omega))
/-- what settings that lead h to g tell at each stage -/
theorem la_xor {k : Nat} {s : Nat → Nat → Int} {h g : Nat} (hk : k < 5) (hs : Bt s) (hh : h < 2 ^ k) (hg : la k s h k = g) {j : Nat} (hj : j < k) :
    s j (nwo k (la k s h j) (j + 1)).toNat = Builtin.bitXor (fg k h (j + 1)) (fg k g (j + 1)) := by
  have h1 := (stp_bit hk (la_in hk hs hh j (by omega)) hj (hs j (nwo k (la k s h j) (j + 1)).toNat)).2.2.2
  have h2 := la_far hk hs hh j (by omega) j (Nat.le_refl _) hj
  have h3 := la_keep hk hs hh (i := j) (k - (j + 1)) (by omega)
  rw [show j + 1 + (k - (j + 1)) = k by omega, hg] at h3
  rw [h3]
  have h4 : fg k (la k s h (j + 1)) (j + 1) = Builtin.bitXor (fg k h (j + 1)) (s j (nwo k (la k s h j) (j + 1)).toNat) := by rw [← h2]; exact h1
  rw [h4]
  rcases hs j (nwo k (la k s h j) (j + 1)).toNat with e | e <;> rcases fg_bit k hk h hh j hj with e2 | e2 <;> rw [e, e2] <;> decide
theorem la_low {k : Nat} {s : Nat → Nat → Int} {h g : Nat} (hk : k < 5) (hs : Bt s) (hh : h < 2 ^ k) (hg : la k s h k = g) : ∀ j, j ≤ k → ((la k s h j : Nat) : Int) = low k h g j
  | 0, _ => (low_zero k hk h hh g (by rw [← hg]; exact la_in hk hs hh k (Nat.le_refl _))).symm
  | j + 1, hj => by
    have hgi : g < 2 ^ k := by rw [← hg]; exact la_in hk hs hh k (Nat.le_refl _)
    rw [low_step k hk h hh g hgi j (by omega), ← la_xor hk hs hh hg (show j < k by omega), ← la_low hk hs hh hg j (by omega)]
    exact Int.toNat_of_nonneg (stp_bit hk (la_in hk hs hh j (by omega)) (show j < k by omega) (hs _ _)).1
/-- each stage keeps lines apart -/
theorem la_inj {k : Nat} {s : Nat → Nat → Int} {h h' : Nat} (hk : k < 5) (hs : Bt s) (hh : h < 2 ^ k) (hh' : h' < 2 ^ k) : ∀ j, j ≤ k → la k s h j = la k s h' j → h = h'
  | 0, _, e => e
  | j + 1, hj, e => by
    refine la_inj hk hs hh hh' j (by omega) ?_
    have i1 := la_in hk hs hh j (by omega)
    have i2 := la_in hk hs hh' j (by omega)
    have jk : j < k := by omega
    have e' : (stp k (la k s h j : Nat) (j + 1) (s j (nwo k (la k s h j) (j + 1)).toNat)).toNat = (stp k (la k s h' j : Nat) (j + 1) (s j (nwo k (la k s h' j) (j + 1)).toNat)).toNat := e
    have n1 : ∀ (l : Nat) (c : Int), l < 2 ^ k → (c = 0 ∨ c = 1) → nwo k (stp k l (j + 1) c).toNat (j + 1) = nwo k l (j + 1) := by
      intro l c hl hc
      rcases hc with rfl | rfl
      · rw [stp_zero k hk l hl j jk, Int.toNat_natCast]
      · exact nwo_stp k hk l hl j jk
    have en : nwo k (la k s h j) (j + 1) = nwo k (la k s h' j) (j + 1) := by
      rw [← n1 _ _ i1 (hs j (nwo k (la k s h j) (j + 1)).toNat), e', n1 _ _ i2 (hs j _)]
    rw [en] at e'
    rcases hs j (nwo k (la k s h' j) (j + 1)).toNat with c | c
    · rw [c, stp_zero k hk _ i1 j jk, stp_zero k hk _ i2 j jk, Int.toNat_natCast, Int.toNat_natCast] at e'
      exact e'
    · rw [c] at e'
      have t1 := stp_two k hk _ i1 j jk
      have t2 := stp_two k hk _ i2 j jk
      rw [e', t2] at t1
      exact (Int.ofNat.inj t1).symm
def crs (k h g j : Nat) : Int := Builtin.bitXor (fg k h (j + 1)) (fg k g (j + 1))
theorem crs_bit {k h g j : Nat} (hk : k < 5) (hh : h < 2 ^ k) (hg : g < 2 ^ k) (hj : j < k) : crs k h g j = 0 ∨ crs k h g j = 1 := by
  unfold crs
  rcases fg_bit k hk h hh j hj with e | e <;> rcases fg_bit k hk g hg j hj with e2 | e2 <;> rw [e, e2] <;> decide
theorem low_nat {k h g j : Nat} (hk : k < 5) (hh : h < 2 ^ k) (hg : g < 2 ^ k) (hj : j ≤ k) : low k h g j = ((low k h g j).toNat : Nat) ∧ (low k h g j).toNat < 2 ^ k := by
  have h1 := lline_in k hk h hh g hg j (by omega)
  rw [← low_is k hk h hh g hg j (by omega)] at h1
  have e : ((2 ^ k : Nat) : Int) = 2 ^ k := by push_cast; rfl
  omega
/-- settings that tell the crossings lead h to g -/
theorem la_by {k : Nat} {s : Nat → Nat → Int} {h g : Nat} (hk : k < 5) (hh : h < 2 ^ k) (hg : g < 2 ^ k)
    (hs : ∀ j, j < k → s j (nwo k (low k h g j).toNat (j + 1)).toNat = crs k h g j) : ∀ j, j ≤ k → ((la k s h j : Nat) : Int) = low k h g j
  | 0, _ => (low_zero k hk h hh g hg).symm
  | j + 1, hj => by
    have ih := la_by hk hh hg hs j (by omega)
    have e1 : la k s h j = (low k h g j).toNat := by omega
    have l1 := low_nat hk hh hg (show j ≤ k by omega)
    have l2 := low_nat hk hh hg hj
    have st := low_step k hk h hh g hg j (by omega)
    show (((stp k (la k s h j : Nat) (j + 1) (s j (nwo k (la k s h j) (j + 1)).toNat)).toNat : Nat) : Int) = _
    rw [e1, hs j (by omega)]
    have e2 : stp k ((low k h g j).toNat : Nat) (j + 1) (crs k h g j) = low k h g (j + 1) := by rw [← l1.1, st] <;> rfl
    rw [e2]
    exact l2.1.symm
theorem la_led {k : Nat} {s : Nat → Nat → Int} {h g : Nat} (hk : k < 5) (hh : h < 2 ^ k) (hg : g < 2 ^ k)
    (hs : ∀ j, j < k → s j (nwo k (low k h g j).toNat (j + 1)).toNat = crs k h g j) : la k s h k = g := by
  have h1 := la_by hk hh hg hs k (Nat.le_refl _)
  rw [low_all k hk h hh g hg] at h1
  exact Int.ofNat.inj h1
/-- two ways by one switch, apart ahead of it and behind it, are crossed alike -/
theorem crs_same {k h g h' g' j : Nat} (hk : k < 5) (hh : h < 2 ^ k) (hg : g < 2 ^ k) (hh' : h' < 2 ^ k) (hg' : g' < 2 ^ k) (hj : j < k)
    (n0 : low k h g j ≠ low k h' g' j) (n1 : low k h g (j + 1) ≠ low k h' g' (j + 1))
    (e : nwo k (low k h g j).toNat (j + 1) = nwo k (low k h' g' j).toNat (j + 1)) : crs k h g j = crs k h' g' j := by
  have l1 := low_nat hk hh hg (show j ≤ k by omega)
  have l2 := low_nat hk hh' hg' (show j ≤ k by omega)
  have s1 := low_step k hk h hh g hg j hj
  have s2 := low_step k hk h' hh' g' hg' j hj
  change _ = stp k (low k h g j) (j + 1) (crs k h g j) at s1
  change _ = stp k (low k h' g' j) (j + 1) (crs k h' g' j) at s2
  rw [l1.1] at s1
  rw [l2.1] at s2
  rcases nwo_two k hk _ l1.2 _ l2.2 j hj with c | c | c
  · exact absurd e c
  · exact absurd (by rw [l1.1, l2.1, c]) n0
  · have t1 := stp_two k hk _ l1.2 j hj
    rw [← c, Int.toNat_natCast] at t1
    rcases crs_bit hk hh hg hj with a | a <;> rcases crs_bit hk hh' hg' hj with b | b
    · rw [a, b]
    · rw [a, stp_zero k hk _ l1.2 j hj] at s1
      rw [b, t1] at s2
      exact absurd (s1.trans s2.symm) n1
    · rw [a, ← c] at s1
      rw [b, stp_zero k hk _ l2.2 j hj] at s2
      exact absurd (s1.trans s2.symm) n1
    · rw [a, b]
theorem pig : ∀ (N : Nat) (f : Nat → Nat), (∀ i, i < N → f i < N) → (∀ i j, i < N → j < N → f i = f j → i = j) → ∀ m, m < N → ∃ i, i < N ∧ f i = m
  | 0, _, _, _, m, hm => absurd hm (Nat.not_lt_zero _)
  | N + 1, f, hf, inj, m, hm => by
    have a1 := hf N (Nat.lt_succ_self _)
    have g1 : ∀ i, i < N → (if f i = N then f N else f i) < N := by
      intro i hi
      have h1 := hf i (by omega)
      split
      · rename_i c
        have : f N ≠ N := fun z => by have := inj i N (by omega) (by omega) (by rw [c, z]); omega
        omega
      · omega
    have g2 : ∀ i j, i < N → j < N → (if f i = N then f N else f i) = (if f j = N then f N else f j) → i = j := by
      intro i j hi hj e
      by_cases c : f i = N <;> by_cases d : f j = N
      · exact inj i j (by omega) (by omega) (by rw [c, d])
      · rw [if_pos c, if_neg d] at e
        have := inj N j (by omega) (by omega) e
        omega
      · rw [if_neg c, if_pos d] at e
        have := inj i N (by omega) (by omega) e
        omega
      · rw [if_neg c, if_neg d] at e
        exact inj i j (by omega) (by omega) e
    by_cases c : m = f N
    · exact ⟨N, Nat.lt_succ_self _, c.symm⟩
    by_cases d : m = N
    · have lt : f N < N := by omega
      obtain ⟨i, hi, e⟩ := pig N _ g1 g2 (f N) lt
      by_cases z : f i = N
      · exact ⟨i, by omega, by omega⟩
      · rw [if_neg z] at e
        have := inj i N (by omega) (by omega) e
        omega
    · obtain ⟨i, hi, e⟩ := pig N _ g1 g2 m (by omega)
      by_cases z : f i = N
      · rw [if_pos z] at e
        exact absurd e.symm c
      · rw [if_neg z] at e
        exact ⟨i, by omega, e⟩
/-- where the ways are apart at a level, each switch behind it has a way -/
theorem sw_onto {k j n : Nat} {g : Nat → Nat} (hk : k < 5) (hj : j < k) (hg : ∀ h, h < 2 ^ k → g h < 2 ^ k)
    (ap : ∀ h h', h < 2 ^ k → h' < 2 ^ k → low k h (g h) j = low k h' (g h') j → h = h') (hn : n < 2 ^ (k - 1)) : ∃ h, h < 2 ^ k ∧ nwo k (low k h (g h) j).toNat (j + 1) = (n : Nat) := by
  obtain ⟨l, hl, e⟩ := nwo_onto k hk j hj n hn
  obtain ⟨h, hh, e2⟩ := pig (2 ^ k) (fun h => (low k h (g h) j).toNat) (fun i hi => (low_nat hk hi (hg i hi) (by omega)).2) (fun a b ha hb e => by
    have l1 := low_nat hk ha (hg a ha) (show j ≤ k by omega)
    have l2 := low_nat hk hb (hg b hb) (show j ≤ k by omega)
    refine ap a b ha hb ?_
    have e' : (low k a (g a) j).toNat = (low k b (g b) j).toNat := e
    rw [l1.1, l2.1, e']) l hl
  exact ⟨h, hh, by rw [show (low k h (g h) j).toNat = l from e2]; exact e⟩
/-! settings (k35): what settings_by writes; wants st14d, st15d -/
/-- ways apart -/
def Ap (k : Nat) (g : Nat → Nat) : Prop := ∀ lv, lv ≤ k → ∀ h h', h < 2 ^ k → h' < 2 ^ k → low k h (g h) lv = low k h' (g h') lv → h = h'
def prs (k : Nat) (g : Nat → Nat) : List (Nat × Nat) := (List.range (2 ^ k)).map fun h => (h, g h)
def Gd (k : Nat) (g : Nat → Nat) : Prop := ∀ h, h < 2 ^ k → g h < 2 ^ k
theorem nodup_of : ∀ {L : List Int}, (∀ x, ¬ Rp L x) → L.Nodup
  | [], _ => List.nodup_nil
  | a :: L, h => by
    rw [List.nodup_cons]
    refine ⟨fun m => h a ?_, nodup_of fun x c => h x ?_⟩
    · unfold Rp
      rw [List.count_cons_self]
      have := List.count_pos_iff.mpr m
      omega
    · unfold Rp at c ⊢
      rw [List.count_cons]
      omega
theorem nodup_inj {f : Nat → Int} {N : Nat} (nd : ((List.range N).map f).Nodup) : ∀ h h', h < N → h' < N → f h = f h' → h = h' := by
  rw [List.nodup_iff_pairwise_ne, List.pairwise_iff_getElem] at nd
  have lt : ∀ h h', h < h' → h' < N → f h ≠ f h' := fun h h' a b => by
    have := nd h h' (by rw [List.length_map, List.length_range]; omega) (by rw [List.length_map, List.length_range]; omega) a
    rwa [List.getElem_map, List.getElem_map, List.getElem_range, List.getElem_range] at this
  intro h h' a b e
  rcases Nat.lt_trichotomy h h' with c | c | c
  · exact absurd e (lt _ _ c b)
  · exact c
  · exact absurd e.symm (lt _ _ c a)
theorem inj_nodup {f : Nat → Int} {N : Nat} (i : ∀ h h', h < N → h' < N → f h = f h' → h = h') : ((List.range N).map f).Nodup := by
  rw [List.nodup_iff_pairwise_ne, List.pairwise_iff_getElem]
  intro a b ha hb c e
  rw [List.length_map, List.length_range] at ha hb
  rw [List.getElem_map, List.getElem_map, List.getElem_range, List.getElem_range] at e
  have := i a b ha hb e
  omega
theorem lns_prs {k lv : Nat} {g : Nat → Nat} (hk : k < 5) (hg : Gd k g) (hl : lv ≤ k) : lns k (prs k g) lv = (List.range (2 ^ k)).map fun h => low k h (g h) lv := by
  unfold lns prs
  rw [List.map_map]
  refine List.map_congr_left fun h hh => ?_
  have hh := List.mem_range.mp hh
  exact (low_is k hk h hh (g h) (hg h hh) lv (by omega)).symm
theorem ap_of {k : Nat} {g : Nat → Nat} (hk : k < 5) (hg : Gd k g) (no : Fst (lns k (prs k g)) k none) : Ap k g := by
  intro lv hl
  have nd := nodup_of (no lv hl)
  rw [lns_prs hk hg hl] at nd
  exact nodup_inj nd
theorem no_of {k : Nat} {g : Nat → Nat} (hk : k < 5) (hg : Gd k g) (ap : Ap k g) : Fst (lns k (prs k g)) k none := by
  intro lv hl x c
  have nd := inj_nodup (ap lv hl)
  rw [← lns_prs hk hg hl] at nd
  have := nodup_count x nd
  unfold Rp at c
  omega
theorem la_ap {k : Nat} {s : Nat → Nat → Int} (hk : k < 5) (hs : Bt s) : Ap k (fun h => la k s h k) := by
  intro lv hl h h' hh hh' e
  have e : low k h (la k s h k) lv = low k h' (la k s h' k) lv := e
  have e1 := la_low hk hs hh (g := la k s h k) rfl lv hl
  have e2 := la_low hk hs hh' (g := la k s h' k) rfl lv hl
  exact la_inj hk hs hh hh' lv hl (by omega)
theorem ap_cong {k : Nat} {g g' : Nat → Nat} (e : ∀ h, h < 2 ^ k → g h = g' h) (ap : Ap k g) : Ap k g' := fun lv hl h h' hh hh' c => ap lv hl h h' hh hh' (by rw [e h hh, e h' hh']; exact c)
def row (k : Nat) (s : Nat → Nat → Int) (j : Nat) : List Int := (List.range (2 ^ (k - 1))).map (s j)
/-- settings that lead alike are alike -/
theorem se_uniq {k : Nat} {s s' : Nat → Nat → Int} {g : Nat → Nat} (hk : k < 5) (hs : Bt s) (hs' : Bt s') (hg : ∀ h, h < 2 ^ k → la k s h k = g h) (hg' : ∀ h, h < 2 ^ k → la k s' h k = g h) : ∀ j, j < k → row k s j = row k s' j := by
  intro j hj
  unfold row
  refine List.map_congr_left fun n hn => ?_
  have hn := List.mem_range.mp hn
  have gd : Gd k g := fun h hh => by rw [← hg h hh]; exact la_in hk hs hh k (Nat.le_refl _)
  have ap : Ap k g := ap_cong hg (la_ap hk hs)
  obtain ⟨h, hh, e⟩ := sw_onto (g := g) hk hj gd (fun h h' a b e => ap j (by omega) h h' a b e) hn
  have a1 := la_xor hk hs hh (hg h hh) hj
  have a2 := la_xor hk hs' hh (hg' h hh) hj
  have l1 := la_low hk hs hh (hg h hh) j (by omega)
  have l2 := la_low hk hs' hh (hg' h hh) j (by omega)
  have e1 : la k s h j = (low k h (g h) j).toNat := by omega
  have e2 : la k s' h j = (low k h (g h) j).toNat := by omega
  rw [e1, e, Int.toNat_natCast] at a1
  rw [e2, e, Int.toNat_natCast] at a2
  rw [a1, a2]
def wr (c : Nat → Nat → Int) (j0 n0 : Nat) (v : Int) : Nat → Nat → Int := fun j n => if j = j0 ∧ n = n0 then v else c j n
theorem wr_bit {c : Nat → Nat → Int} {j n : Nat} {v : Int} (h : Bt c) (hv : v = 0 ∨ v = 1) : Bt (wr c j n v) := fun i m => by
  unfold wr
  split
  · exact hv
  · exact h i m
theorem row_wr {k : Nat} {c : Nat → Nat → Int} {j n : Nat} {v : Int} (hn : n < 2 ^ (k - 1)) : row k (wr c j n v) j = (row k c j).set n v := by
  refine List.ext_getElem? fun i => ?_
  unfold row
  rw [List.getElem?_set, List.length_map, List.length_range, List.getElem?_map, List.getElem?_map]
  by_cases e : n = i
  · subst e
    rw [if_pos rfl, if_pos hn, List.getElem?_range hn]
    show some (wr c j n v j n) = _
    unfold wr
    rw [if_pos ⟨rfl, rfl⟩]
  · rw [if_neg e]
    by_cases l : i < 2 ^ (k - 1)
    · rw [List.getElem?_range l]
      show some (wr c j n v j i) = some (c j i)
      unfold wr
      rw [if_neg (fun z => e z.2.symm)]
    · rw [List.getElem?_eq_none (by rw [List.length_range]; omega)] <;> rfl
theorem row_wr_ne {k : Nat} {c : Nat → Nat → Int} {j i n : Nat} {v : Int} (h : i ≠ j) : row k (wr c j n v) i = row k c i := by
  unfold row
  refine List.map_congr_left fun m _ => ?_
  unfold wr
  rw [if_neg (fun z => h z.1)]
def Wd (k : Nat) (g : Nat → Nat) (h j : Nat) (c : Nat → Nat → Int) : Prop := ∀ h' i, (h' < h ∧ i < k ∨ h' = h ∧ i < j) → c i (nwo k (low k h' (g h') i).toNat (i + 1)).toNat = crs k h' (g h') i
theorem Wd.step {k : Nat} {g : Nat → Nat} {h j : Nat} {c : Nat → Nat → Int} (hk : k < 5) (hg : Gd k g) (ap : Ap k g) (hh : h < 2 ^ k) (hj : j < k) (w : Wd k g h j c) : Wd k g h (j + 1) (wr c j (nwo k (low k h (g h) j).toNat (j + 1)).toNat (crs k h (g h) j)) := by
  intro h' i hi
  unfold wr
  split
  · rename_i e
    obtain ⟨rfl, e⟩ := e
    by_cases d : h' = h
    · rw [d]
    · have hh' : h' < 2 ^ k := by omega
      have l1 := low_nat hk hh (hg h hh) (show i ≤ k by omega)
      have l2 := low_nat hk hh' (hg h' hh') (show i ≤ k by omega)
      have n1 := nwo_in k hk _ l1.2 i hj
      have n2 := nwo_in k hk _ l2.2 i hj
      exact crs_same hk hh (hg h hh) hh' (hg h' hh') hj (fun z => d (ap i (by omega) h' h hh' hh z.symm)) (fun z => d (ap (i + 1) (by omega) h' h hh' hh z.symm)) (by omega)
  · rename_i e
    refine w h' i ?_
    rcases hi with a | ⟨rfl, b⟩
    · exact .inl a
    · refine .inr ⟨rfl, ?_⟩
      have : i ≠ j := fun z => e (by subst z; exact ⟨rfl, rfl⟩)
      omega
theorem Wd.next {k : Nat} {g : Nat → Nat} {h : Nat} {c : Nat → Nat → Int} (w : Wd k g h k c) : Wd k g (h + 1) 0 c := fun h' i hi => w h' i (by omega)
theorem Wd.zero {k : Nat} {g : Nat → Nat} {c : Nat → Nat → Int} : Wd k g 0 0 c := fun h' i hi => by omega
theorem Wd.fin {k : Nat} {g : Nat → Nat} {c : Nat → Nat → Int} (hk : k < 5) (hg : Gd k g) (w : Wd k g (2 ^ k) 0 c) : ∀ h, h < 2 ^ k → la k c h k = g h := fun h hh => la_led hk hh (hg h hh) fun j hj => w h j (.inl ⟨hh, hj⟩)
end Toy
/-! ### tuples: t + u and t[a:b] of any kind -/
namespace Toy
open PySem PySem.Spec PyProof.Rows L2
def rCatU : R2 := fun x y H Q => ∃ a b xs ys, x = .ref a ∧ y = .ref b ∧ H a = some (.tup xs) ∧ H b = some (.tup ys) ∧ xs.length + ys.length ≤ sizeLine ∧ ∀ p H', Same H H' → H' p = some (.tup (xs ++ ys)) → Q (.ref p) H'
theorem op_catU {X : Cx} : OpR X (binaryOp .Add) rCatU := by
  intro pins s σ H x y v u Q I rx ry h
  obtain ⟨a, b, xs, ys, rfl, rfl, ha, hb, hz, q⟩ := h
  refine op_catA pins s σ H _ _ v u Q I rx ry ⟨a, b, xs, ys, rfl, rfl, SqT.of ha, SqT.of hb, hz, fun e => ?_, fun _ e => ?_, fun _ _ p hp => q p _ (same_new hp _) upd_same⟩
  · subst e
    exact q b H (fun _ _ z => z) (by rw [hb, List.nil_append])
  · subst e
    exact q a H (fun _ _ z => z) (by rw [ha, List.append_nil])
def rSlU : V → Option Int → Option Int → Hp → VK → Prop := fun x lo hi H Q => ∃ a xs, x = .ref a ∧ H a = some (.tup xs) ∧ ∀ p H', Same H H' → H' p = some (.tup (cutV xs lo hi)) → Q (.ref p) H'
theorem sl_tupU {X : Cx} : SlR X rSlU := by
  intro pins s σ H x v vl vu lo hi sl Q I rx hs pl pu h
  obtain ⟨a, xs, rfl, ha, q⟩ := h
  refine sl_tupA pins s σ H _ v vl vu lo hi sl Q I rx hs pl pu ⟨a, xs, rfl, SqT.of ha, fun e => ?_, fun _ p hp => q p _ (same_new hp _) upd_same⟩
  refine q a H (fun _ _ z => z) ?_
  rw [ha]
  have : cutV xs lo hi = xs := by
    unfold cutV
    rw [e.1, e.2, List.drop_zero, Nat.sub_zero, List.take_length]
  rw [this]
/-! ### things of any kind: numbers, truths, None, texts, tuples, lists, dicts with ints as keys -/
mutual
def wt : PyData → Nat
  | .none => 5
  | .bool _ => 5
  | .int _ => 1921
  | .str x => (reprText x).length + 1
  | .list xs => wts xs + 4
  | .tuple xs => wts xs + 4
  | .dict kvs => wtk kvs + 4
def wts : List PyData → Nat
  | [] => 0
  | x :: xs => wt x + 4 + wts xs
def wtk : List (PyData × PyData) → Nat
  | [] => 0
  | (k, v) :: r => wt k + wt v + 8 + wtk r
end
theorem dicT_len (ts : List Str) : (dictText ts).length ≤ piled ts + 4 := by
  unfold dictText
  rw [strLen_append, strLen_append]
  have e1 : ((("{" : String) : Str)).length = 1 := rfl
  have e3 : ((("}" : String) : Str)).length = 1 := rfl
  by_cases h : ts = []
  · subst h; decide +kernel
  · have := join_length_add ts h; omega
mutual
theorem shown_wt : ∀ d : PyData, d.showable = true → d.shown.length ≤ wt d
  | .none, _ => by show (("None" : String) : Str).length ≤ 5; decide +kernel
  | .bool b, _ => by cases b <;> (show _ ≤ 5; decide +kernel)
  | .int i, h => PyProof.Rows.int_text_len_1921 (of_decide_eq_true (by simpa [PyData.showable] using h))
  | .str x, _ => Nat.le_succ _
  | .list ds, h => by
    have h1 := showns_wt ds (by simpa [PyData.showable] using h)
    have h2 := lstT_len (PyData.shownAll ds)
    show (listText (PyData.shownAll ds)).length ≤ wts ds + 4
    omega
  | .tuple ds, h => by
    have h1 := showns_wt ds (by simpa [PyData.showable] using h)
    have h2 := tupT_len (PyData.shownAll ds)
    show (tupleText (PyData.shownAll ds)).length ≤ wts ds + 4
    omega
  | .dict kvs, h => by
    have h1 := shownk_wt kvs (by simpa [PyData.showable] using h)
    have h2 := dicT_len (PyData.shownKv kvs)
    show (dictText (PyData.shownKv kvs)).length ≤ wtk kvs + 4
    omega
theorem showns_wt : ∀ ds : List PyData, PyData.showableAll ds = true → piled (PyData.shownAll ds) ≤ wts ds
  | [], _ => Nat.le_refl _
  | d :: ds, h => by
    have h1 := shown_wt d (by simp [PyData.showableAll] at h; exact h.1)
    have h2 := showns_wt ds (by simp [PyData.showableAll] at h; exact h.2)
    show piled (d.shown :: PyData.shownAll ds) ≤ _
    rw [piled_cons]
    show _ ≤ wt d + 4 + wts ds
    omega
theorem shownk_wt : ∀ kvs : List (PyData × PyData), PyData.showableKv kvs = true → piled (PyData.shownKv kvs) ≤ wtk kvs
  | [], _ => Nat.le_refl _
  | (k, v) :: r, h => by
    have h0 : (k.showable = true ∧ v.showable = true) ∧ PyData.showableKv r = true := by simpa [PyData.showableKv] using h
    have h1 := shown_wt k h0.1.1
    have h2 := shown_wt v h0.1.2
    have h3 := shownk_wt r h0.2
    show piled ((k.shown ++ ": " ++ v.shown) :: PyData.shownKv r) ≤ _
    rw [piled_cons, strLen_append, strLen_append]
    have e : (((": " : String) : Str)).length = 2 := rfl
    show _ ≤ wt k + wt v + 8 + wtk r
    omega
end
theorem shown_wz {d : PyData} (h : d.showable = true) (c : wt d ≤ 10000000) : d.shown.length ≤ sizeLine := Nat.le_trans (shown_wt d h) (Nat.le_trans c (by decide))
/-- a thing: d stands at v; the list p is no part of it -/
inductive Th (K : PySem.W.Frag) (p : Addr) (H : Hp) : V → PyData → Prop
  | non : Th K p H .non .none
  | bl (b : Bool) : Th K p H (.bl b) (.bool b)
  | int (i : Int) : Th K p H (.int i) (.int i)
  | str (x : Str) : Th K p H (.str x) (.str x)
  | tup {a : Addr} {tr : List (V × PyData)} : H a = some (.tup (tr.map fun t => t.1)) → (∀ t ∈ tr, Th K p H t.1 t.2) → Th K p H (.ref a) (.tuple (tr.map fun t => t.2))
  | lst {a : Addr} {tr : List (V × PyData)} : a ≠ p → a ≠ sysModules → H a = some (.lst (tr.map fun t => t.1)) → (∀ t ∈ tr, Th K p H t.1 t.2) → Th K p H (.ref a) (.list (tr.map fun t => t.2))
  | dct {a : Addr} {tr : List (Int × V × PyData)} : H a = some (.dK (tr.map fun t => (Sum.inl t.1, t.2.1))) → (∀ t ∈ tr, Th K p H t.2.1 t.2.2) → Th K p H (.ref a) (.dict (tr.map fun t => (.int t.1, t.2.2)))
theorem Th.same {K : PySem.W.Frag} {p : Addr} {H H' : Hp} {v : V} {d : PyData} (h : Th K p H v d) (e : Same H H') : Th K p H' v d := by
  induction h with
  | non => exact .non
  | bl b => exact .bl b
  | int i => exact .int i
  | str x => exact .str x
  | tup h1 _ ih => exact .tup (e _ _ h1) ih
  | lst n1 n2 h1 _ ih => exact .lst n1 n2 (e _ _ h1) ih
  | dct h1 _ ih => exact .dct (e _ _ h1) ih
theorem Th.but {K : PySem.W.Frag} {p : Addr} {H H' : Hp} {v : V} {d : PyData} {ys : List V} (h : Th K p H v d) (e : But p H H') (hp : H p = some (.lst ys)) : Th K p H' v d := by
  induction h with
  | non => exact .non
  | bl b => exact .bl b
  | int i => exact .int i
  | str x => exact .str x
  | tup h1 _ ih => exact .tup (e _ _ (ne_of h1 hp (by intro z; cases z)) h1) ih
  | lst n1 n2 h1 _ ih => exact .lst n1 n2 (e _ _ n1 h1) ih
  | dct h1 _ ih => exact .dct (e _ _ (ne_of h1 hp (by intro z; cases z)) h1) ih
/-- the kind of a thing -/
def tyD : PyData → String
  | .none => "NoneType"
  | .bool _ => "bool"
  | .int _ => "int"
  | .str _ => "str"
  | .list _ => "list"
  | .tuple _ => "tuple"
  | .dict _ => "dict"
def isTu : PyData → Bool
  | .tuple _ => true
  | _ => false
def isIn : PyData → Bool
  | .int _ => true
  | .bool _ => true
  | _ => false
def isBl : PyData → Bool
  | .bool _ => true
  | _ => false
def isSt : PyData → Bool
  | .str _ => true
  | _ => false
/-- a whole number -/
def isWh : PyData → Bool
  | .int _ => true
  | _ => false
theorem isWh_eq (d : PyData) : isWh d = (isIn d && !isBl d) := by cases d <;> rfl
theorem Th.ty {K : PySem.W.Frag} {p : Addr} {H : Hp} {v : V} {d : PyData} (h : Th K p H v d) : TyX K H v (.type (tyD d)) := by
  cases h with
  | non => exact .base .non
  | bl b => exact .base (.bl b)
  | int i => exact .base (.int i)
  | str x => exact .base (.str x)
  | tup h1 _ => exact .base (.tup h1)
  | lst _ _ h1 _ => exact .base (.lst h1)
  | dct h1 _ => exact .base (.dK h1)
theorem kit_tu {K : PySem.W.Frag} : ∀ d : PyData, PySem.W.kitOne K (.type (tyD d)) (.type "tuple") = some (isTu d)
  | .none => (kit_ty (by decide +kernel) : PySem.W.kitOne K (.type "NoneType") (.type "tuple") = some false)
  | .bool _ => (kit_ty (by decide +kernel) : PySem.W.kitOne K (.type "bool") (.type "tuple") = some false)
  | .int _ => (kit_ty (by decide +kernel) : PySem.W.kitOne K (.type "int") (.type "tuple") = some false)
  | .str _ => (kit_ty (by decide +kernel) : PySem.W.kitOne K (.type "str") (.type "tuple") = some false)
  | .list _ => (kit_ty (by decide +kernel) : PySem.W.kitOne K (.type "list") (.type "tuple") = some false)
  | .tuple _ => (kit_ty (by decide +kernel) : PySem.W.kitOne K (.type "tuple") (.type "tuple") = some true)
  | .dict _ => (kit_ty (by decide +kernel) : PySem.W.kitOne K (.type "dict") (.type "tuple") = some false)
theorem kit_in {K : PySem.W.Frag} : ∀ d : PyData, PySem.W.kitOne K (.type (tyD d)) (.type "int") = some (isIn d)
  | .none => (kit_ty (by decide +kernel) : PySem.W.kitOne K (.type "NoneType") (.type "int") = some false)
  | .bool _ => (kit_ty (by decide +kernel) : PySem.W.kitOne K (.type "bool") (.type "int") = some true)
  | .int _ => (kit_ty (by decide +kernel) : PySem.W.kitOne K (.type "int") (.type "int") = some true)
  | .str _ => (kit_ty (by decide +kernel) : PySem.W.kitOne K (.type "str") (.type "int") = some false)
  | .list _ => (kit_ty (by decide +kernel) : PySem.W.kitOne K (.type "list") (.type "int") = some false)
  | .tuple _ => (kit_ty (by decide +kernel) : PySem.W.kitOne K (.type "tuple") (.type "int") = some false)
  | .dict _ => (kit_ty (by decide +kernel) : PySem.W.kitOne K (.type "dict") (.type "int") = some false)
theorem kit_bl {K : PySem.W.Frag} : ∀ d : PyData, PySem.W.kitOne K (.type (tyD d)) (.type "bool") = some (isBl d)
  | .none => (kit_ty (by decide +kernel) : PySem.W.kitOne K (.type "NoneType") (.type "bool") = some false)
  | .bool _ => (kit_ty (by decide +kernel) : PySem.W.kitOne K (.type "bool") (.type "bool") = some true)
  | .int _ => (kit_ty (by decide +kernel) : PySem.W.kitOne K (.type "int") (.type "bool") = some false)
  | .str _ => (kit_ty (by decide +kernel) : PySem.W.kitOne K (.type "str") (.type "bool") = some false)
  | .list _ => (kit_ty (by decide +kernel) : PySem.W.kitOne K (.type "list") (.type "bool") = some false)
  | .tuple _ => (kit_ty (by decide +kernel) : PySem.W.kitOne K (.type "tuple") (.type "bool") = some false)
  | .dict _ => (kit_ty (by decide +kernel) : PySem.W.kitOne K (.type "dict") (.type "bool") = some false)
theorem kit_st {K : PySem.W.Frag} : ∀ d : PyData, PySem.W.kitOne K (.type (tyD d)) (.type "str") = some (isSt d)
  | .none => (kit_ty (by decide +kernel) : PySem.W.kitOne K (.type "NoneType") (.type "str") = some false)
  | .bool _ => (kit_ty (by decide +kernel) : PySem.W.kitOne K (.type "bool") (.type "str") = some false)
  | .int _ => (kit_ty (by decide +kernel) : PySem.W.kitOne K (.type "int") (.type "str") = some false)
  | .str _ => (kit_ty (by decide +kernel) : PySem.W.kitOne K (.type "str") (.type "str") = some true)
  | .list _ => (kit_ty (by decide +kernel) : PySem.W.kitOne K (.type "list") (.type "str") = some false)
  | .tuple _ => (kit_ty (by decide +kernel) : PySem.W.kitOne K (.type "tuple") (.type "str") = some false)
  | .dict _ => (kit_ty (by decide +kernel) : PySem.W.kitOne K (.type "dict") (.type "str") = some false)
theorem Th.tup_inv {K : PySem.W.Frag} {p : Addr} {H : Hp} {v : V} {ds : List PyData} (h : Th K p H v (.tuple ds)) : ∃ (a : Addr) (tr : List (V × PyData)), v = .ref a ∧ ds = (tr.map fun t => t.2) ∧ H a = some (.tup (tr.map fun t => t.1)) ∧ ∀ t ∈ tr, Th K p H t.1 t.2 := by
  cases h with
  | @tup a tr h1 h2 => exact ⟨a, tr, rfl, rfl, h1, h2⟩
theorem Th.int_inv {K : PySem.W.Frag} {p : Addr} {H : Hp} {v : V} {i : Int} (h : Th K p H v (.int i)) : v = .int i := by cases h; rfl
theorem isTu_inv {d : PyData} (h : isTu d = true) : ∃ ds, d = .tuple ds := by cases d <;> first | exact ⟨_, rfl⟩ | cases h
theorem isWh_inv {d : PyData} (h : isWh d = true) : ∃ i, d = .int i := by cases d <;> first | exact ⟨_, rfl⟩ | cases h
/-! a thing, shown -/
theorem reads_all {h : Heap} : ∀ {tr : List (V × PyData)} {us : List Value}, Vals (tr.map fun t => t.1) us → (∀ t ∈ tr, ∀ u, RelV t.1 u → ∃ as, Reads h u t.2 as ∧ sysModules ∉ as) → ∃ as, ReadsAll h us (tr.map fun t => t.2) as ∧ sysModules ∉ as
  | [], _, .nil, _ => ⟨_, .nil, List.not_mem_nil⟩
  | t :: tr, _, .cons r rs, ih => by
    obtain ⟨as, h1, h2⟩ := ih t List.mem_cons_self _ r
    obtain ⟨bs, h3, h4⟩ := reads_all rs fun x hx => ih x (List.mem_cons_of_mem _ hx)
    exact ⟨_, .cons h1 h3, fun z => (List.mem_append.mp z).elim h2 h4⟩
theorem reads_dct {P : Program} {w : World} {h : Heap} : ∀ {tr : List (Int × V × PyData)} {vs : List (Key × Value)} {es : List DictEntry}, KV (tr.map fun t => ((Sum.inl t.1 : Key), t.2.1)) vs → Pairs (mixKind P w) es vs → (∀ t ∈ tr, ∀ u, RelV t.2.1 u → ∃ as, Reads h u t.2.2 as ∧ sysModules ∉ as) →
    ∃ as bs, ReadsAll h (es.map fun e => e.key) (tr.map fun t => PyData.int t.1) as ∧ ReadsAll h (es.map fun e => e.val) (tr.map fun t => t.2.2) bs ∧ sysModules ∉ as ∧ sysModules ∉ bs
  | [], _, _, .nil, .nil, _ => ⟨_, _, .nil, .nil, List.not_mem_nil, List.not_mem_nil⟩
  | t :: tr, _, _, .cons k ks, .cons e1 e2 es, ih => by
    obtain ⟨as, h1, h2⟩ := ih t List.mem_cons_self _ k.2
    obtain ⟨cs, bs, h3, h4, h5, h6⟩ := reads_dct ks es fun x hx => ih x (List.mem_cons_of_mem _ hx)
    have e1' := e1
    rw [← k.1] at e1'
    have e3 : keyIs (Sum.inl t.1) _ = true := e1'
    rcases keyIs_shape e3 with ⟨i, tk, ei, ek⟩ | ⟨x, tk, ei, _⟩
    · cases ei
      rw [← e2] at h1
      exact ⟨[] ++ cs, as ++ bs, .cons (by show Reads h _ (.int t.1) []; dsimp only; rw [ek]; exact Reads.int t.1 tk) h3, .cons h1 h4, h5, fun z => (List.mem_append.mp z).elim h2 h6⟩
    · cases ei
theorem Th.reads {X : Cx} {pins : List (Addr × Obj)} {σ : L2.St} {p : Addr} {H : Hp} {s : Shared} (I : Inv X pins σ H s) {v : V} {d : PyData} (h : Th X.K p H v d) : ∀ u, RelV v u → ∃ as, Reads s.heap u d as ∧ sysModules ∉ as := by
  induction h with
  | non => intro u r; cases r; exact ⟨_, .none, List.not_mem_nil⟩
  | bl b => intro u r; cases r; exact ⟨_, .bool b, List.not_mem_nil⟩
  | int i => intro u r; obtain ⟨t, rfl⟩ := r; exact ⟨_, .int i t, List.not_mem_nil⟩
  | str x => intro u r; obtain ⟨t, rfl⟩ := r; exact ⟨_, .str x t, List.not_mem_nil⟩
  | @tup a tr h1 _ ih =>
    intro u r
    cases r
    obtain ⟨its, rv, ⟨o, ho, hc, n, hd⟩, _⟩ := I.tuple (SqT.of h1)
    obtain ⟨as, h2, h3⟩ := reads_all rv ih
    exact ⟨_, .tuple ho hc hd h2, h3⟩
  | @lst a tr n1 n2 h1 _ ih =>
    intro u r
    cases r
    obtain ⟨its, rv, ⟨o, n, ho, hc, _, hd⟩, _⟩ := I.list (SqL.of h1)
    obtain ⟨as, h2, h3⟩ := reads_all rv ih
    exact ⟨_, .list ho hc hd h2, fun z => (List.mem_cons.mp z).elim (fun q => n2 q.symm) h3⟩
  | @dct a tr h1 _ ih =>
    intro u r
    cases r
    obtain ⟨_, hs, vs, kv, o, es, ep, ho, hx, hd, _, pr, _⟩ := dk_of I.hok h1
    obtain ⟨as, bs, h2, h3, h4, h5⟩ := reads_dct kv pr ih
    refine ⟨a :: as ++ bs, .dict (kvs := tr.map fun t => (PyData.int t.1, t.2.2)) ho hx.1 hd (by rw [List.map_map]; exact h2) (by rw [List.map_map]; exact h3), fun z => ?_⟩
    rcases List.mem_append.mp z with z | z
    · rcases List.mem_cons.mp z with z | z
      · rw [← z] at hs; cases hs
      · exact h4 z
    · exact h5 z
def rReprO (K : PySem.W.Frag) : List V → Hp → VK → Prop := fun xs H Q => ∃ (x : V) (d : PyData) (p : Addr), xs = [x] ∧ Th K p H x d ∧ d.showable = true ∧ d.depth ≤ 60 ∧ d.shown.length ≤ sizeLine ∧ Q (.str d.shown) H
theorem reprO {X : Cx} {k : Nat} {K : PySem.W.Frag} (hr : RoomG k X.A) (eK : X.K = K := by rfl) : CallR X (.builtin "repr") (rReprO K) := by
  cases eK
  intro pins s σ H xs us Q I r h
  obtain ⟨x, d, p, rfl, hd, hs, hdep, hz, q⟩ := h
  obtain ⟨u, rfl, rx⟩ := vals1 r
  obtain ⟨as, rd, na⟩ := Th.reads I hd u rx
  have hu := hr.units
  cases hd with
  | non => cases rx; exact PySem.P.repr_of_none ⟨.str _, H, I.tok _, ⟨_, rfl⟩, q⟩
  | bl b => cases rx; exact PySem.P.repr_of_bool ⟨.str _, H, I.tok _, ⟨_, rfl⟩, q⟩
  | int i => obtain ⟨t, rfl⟩ := rx; exact PySem.P.repr_of_int (of_decide_eq_true (by simpa [PyData.showable] using hs)) ⟨.str _, H, I.tok _, ⟨_, rfl⟩, q⟩
  | str z => obtain ⟨t, rfl⟩ := rx; exact PySem.P.repr_of_str ⟨.str _, H, I.tok _, ⟨_, rfl⟩, q⟩ hz
  | tup _ _ =>
    cases rx
    exact repr_of_reads' rd hs (fun _ => na) hr.idle (by omega) (fun _ _ z => z) (fun h' u tk hk => ⟨.str _, H, I.kept hk, ⟨_, rfl⟩, q⟩) hz
  | lst _ _ _ _ =>
    cases rx
    exact repr_of_reads' rd hs (fun _ => na) hr.idle (by omega) (fun _ _ z => z) (fun h' u tk hk => ⟨.str _, H, I.kept hk, ⟨_, rfl⟩, q⟩) hz
  | dct _ _ =>
    cases rx
    exact repr_of_reads' rd hs (fun _ => na) hr.idle (by omega) (fun _ _ z => z) (fun h' u tk hk => ⟨.str _, H, I.kept hk, ⟨_, rfl⟩, q⟩) hz
/-! lists that may be parts of things -/
def tLstS (t : TA) : TE := fun σ H Q => t σ H fun xs H1 => xs.length ≤ sizeLine ∧ ∀ p, H1 p = none → p ≠ sysModules → Q (.ref p) (upd H1 p (.lst xs))
theorem pe_lstS {X : Cx} {es : List Expr} {t : TA} {pos : Pos} (h : PA X es t) : PE X (.List es pos) (tLstS t) := by
  refine ⟨fun pins s σ H Q I hq => ?_⟩
  refine wpAny_List_spliced (thn (h.run pos pins s σ H _ I hq) fun us s1 ⟨xs, H1, I1, r, z, q⟩ => ⟨by rw [← r.length]; exact z, ?_⟩)
  have hn : H1 s1.heap.objs.size = none := I1.hok.fresh (Nat.le_refl _)
  exact ⟨.ref s1.heap.objs.size, upd H1 s1.heap.objs.size (.lst xs), I1.laid (t' := s1.toks) (fun b u e => Heap.get?_push_of_some _ e) (Nat.le_refl _) ⟨z, us, 0, r, Heap.get?_push_size _ rfl⟩, rfl, q _ hn (Nat.ne_of_gt I1.big)⟩
def rLstOfS (K : PySem.W.Frag) : List V → Hp → VK → Prop := fun xs H Q => ∃ p ys, xs = [.ref p] ∧ (SqL K H p ys ∨ SqT K H p ys) ∧ ∀ l, H l = none → l ≠ sysModules → Q (.ref l) (upd H l (.lst ys))
theorem lstOfS {X : Cx} {K : PySem.W.Frag} (eK : X.K = K := by rfl) : CallR X (.type "list") (rLstOfS K) := by
  cases eK
  intro pins s σ H xs us Q I r h
  obtain ⟨p, ys, rfl, hq, q⟩ := h
  obtain ⟨u, rfl, rx⟩ := vals1 r
  cases rx
  have fin : ∀ (its : List Value), Vals ys its → ys.length ≤ sizeLine → ∀ (h' : Heap) (c' : Nat), (∀ b o', s.heap.get? b = some o' → h'.get? b = some o') →
      h'.get? s.heap.objs.size = some { cls := .type "list", dict := none, data := .seq its.toArray c', slots := #[] } → EP X pins σ Q (.ref s.heap.objs.size) { s with heap := h' } := fun its r' hz h' c' kp e =>
    ⟨.ref s.heap.objs.size, _, I.laid (t' := s.toks) kp (Nat.le_refl _) (show ObjOk X.prog X.w _ h' _ (.lst ys) from ⟨hz, its, c', r', e⟩), rfl, q _ (I.hok.fresh (Nat.le_refl _)) (Nat.ne_of_gt I.big)⟩
  rcases hq with hq | hq
  · obtain ⟨its, r', pl, hz⟩ := I.list hq
    have hlen := r'.length
    obtain ⟨o, ho, hc, n, hd⟩ := pl.isList
    exact call_list_seq p (.inl rfl) ho hc hd (fun h' c' kp e => fin its r' hz h' c' kp e) (by simp only [List.size_toArray] <;> omega)
  · obtain ⟨its, r', pl, hz⟩ := I.tuple hq
    have hlen := r'.length
    obtain ⟨o, ho, hc, n, hd⟩ := pl
    exact call_list_seq p (.inr rfl) ho hc hd (fun h' c' kp e => fin its r' hz h' c' kp e) (by simp only [List.size_toArray] <;> omega)
/-! ### lists of things beside [] (wants odd0) -/
def rNeNil (K : PySem.W.Frag) : R2 := fun x y H Q => ∃ a b ys, x = .ref a ∧ y = .ref b ∧ SqL K H a ys ∧ SqL K H b [] ∧ Q (.bl (!ys.isEmpty)) H
def rEqNil (K : PySem.W.Frag) : R2 := fun x y H Q => ∃ a b ys, x = .ref a ∧ y = .ref b ∧ SqL K H a ys ∧ SqL K H b [] ∧ Q (.bl ys.isEmpty) H
theorem op_neNil {X : Cx} {K : PySem.W.Frag} (hu : X.A.units + 64 < cLine) (eK : X.K = K := by rfl) : OpR X (compareOp .NotEq) (rNeNil K) := by
  cases eK
  intro pins s σ H x y v u Q I rx ry h
  obtain ⟨a, b, ys, rfl, rfl, ha, hb, q⟩ := h
  cases rx
  cases ry
  obtain ⟨its, rv, hl, _⟩ := I.list ha
  obtain ⟨its2, rv2, hl2, _⟩ := I.list hb
  cases rv2
  cases rv with
  | nil => exact SeqAt.RcNeAt.lists (e := fun _ => true) hl.isList hl2.isList rfl (by omega) (fun j h1 h2 => absurd h1 (Nat.not_lt_zero _)) _ _ _ _ ⟨.bl _, H, I, rfl, q⟩
  | cons r rs => exact SeqAt.RcNeAt.lists_lengths hl.isList hl2.isList (by simp) (by omega) _ _ _ _ ⟨.bl _, H, I, rfl, q⟩
theorem op_eqNil {X : Cx} {K : PySem.W.Frag} (hu : X.A.units + 64 < cLine) (eK : X.K = K := by rfl) : OpR X (compareOp .Eq) (rEqNil K) := by
  cases eK
  intro pins s σ H x y v u Q I rx ry h
  obtain ⟨a, b, ys, rfl, rfl, ha, hb, q⟩ := h
  cases rx
  cases ry
  obtain ⟨its, rv, hl, _⟩ := I.list ha
  obtain ⟨its2, rv2, hl2, _⟩ := I.list hb
  cases rv2
  cases rv with
  | nil => exact SeqAt.RcAt.lists (e := fun _ => true) hl.isList hl2.isList rfl (by omega) (fun j h1 h2 => absurd h1 (Nat.not_lt_zero _)) _ _ _ _ ⟨.bl _, H, I, rfl, q⟩
  | cons r rs => exact SeqAt.RcAt.lists_lengths hl.isList hl2.isList (by simp) (by omega) _ _ _ _ ⟨.bl _, H, I, rfl, q⟩
/-! sizes of things -/
mutual
/-- the greatest number in a thing, by its amount -/
def ib : PyData → Nat
  | .int i => i.natAbs
  | .list xs => ibs xs
  | .tuple xs => ibs xs
  | .dict kvs => ibk kvs
  | _ => 0
def ibs : List PyData → Nat
  | [] => 0
  | x :: xs => max (ib x) (ibs xs)
def ibk : List (PyData × PyData) → Nat
  | [] => 0
  | (k, v) :: r => max (max (ib k) (ib v)) (ibk r)
end
mutual
theorem ib_sh : ∀ d : PyData, ib d ≤ 10 ^ 100 → d.showable = true
  | .none, _ => rfl
  | .bool _, _ => rfl
  | .str _, _ => rfl
  | .int i, h => by
    have h : i.natAbs ≤ 10 ^ 100 := h
    have : i.natAbs.log2 < 1920 := log_lt (by decide) (Nat.lt_of_le_of_lt h (by decide))
    simpa [PyData.showable] using this
  | .list xs, h => ibs_sh xs h
  | .tuple xs, h => ibs_sh xs h
  | .dict kvs, h => ibk_sh kvs h
theorem ibs_sh : ∀ xs : List PyData, ibs xs ≤ 10 ^ 100 → PyData.showableAll xs = true
  | [], _ => rfl
  | x :: xs, h => by
    have h : max (ib x) (ibs xs) ≤ 10 ^ 100 := h
    have h1 := ib_sh x (Nat.le_trans (Nat.le_max_left _ _) h)
    have h2 := ibs_sh xs (Nat.le_trans (Nat.le_max_right _ _) h)
    simp only [PyData.showableAll, h1, h2, Bool.and_self]
theorem ibk_sh : ∀ kvs : List (PyData × PyData), ibk kvs ≤ 10 ^ 100 → PyData.showableKv kvs = true
  | [], _ => rfl
  | (k, v) :: r, h => by
    have h : max (max (ib k) (ib v)) (ibk r) ≤ 10 ^ 100 := h
    have h1 := ib_sh k (Nat.le_trans (Nat.le_trans (Nat.le_max_left _ _) (Nat.le_max_left _ _)) h)
    have h2 := ib_sh v (Nat.le_trans (Nat.le_trans (Nat.le_max_right _ _) (Nat.le_max_left _ _)) h)
    have h3 := ibk_sh r (Nat.le_trans (Nat.le_max_right _ _) h)
    simp only [PyData.showableKv, h1, h2, h3, Bool.and_self]
end
/-- depth, length when shown, greatest number -/
structure Wg (d : PyData) (n c b : Nat) : Prop where
  dep : d.depth ≤ n
  len : wt d ≤ c
  big : ib d ≤ b
theorem Wg.mono {d : PyData} {n c b n' c' b' : Nat} (w : Wg d n c b) (h1 : n ≤ n') (h2 : c ≤ c') (h3 : b ≤ b') : Wg d n' c' b' := ⟨Nat.le_trans w.dep h1, Nat.le_trans w.len h2, Nat.le_trans w.big h3⟩
structure Wgs (ds : List PyData) (n c b : Nat) : Prop where
  dep : PyData.depthAll ds ≤ n
  len : wts ds ≤ c
  big : ibs ds ≤ b
theorem Wgs.nil {n c b : Nat} : Wgs [] n c b := ⟨Nat.zero_le _, Nat.zero_le _, Nat.zero_le _⟩
theorem Wgs.cons {d : PyData} {ds : List PyData} {n c c' b : Nat} (h : Wg d n c b) (t : Wgs ds n c' b) : Wgs (d :: ds) n (c + 4 + c') b :=
  ⟨by show max d.depth (PyData.depthAll ds) ≤ n; have := h.dep; have := t.dep; omega, by show wt d + 4 + wts ds ≤ _; have := h.len; have := t.len; omega, by show max (ib d) (ibs ds) ≤ b; have := h.big; have := t.big; omega⟩
theorem wts_app : ∀ (xs ys : List PyData), wts (xs ++ ys) = wts xs + wts ys
  | [], ys => by show wts ys = 0 + wts ys; omega
  | x :: xs, ys => by show wt x + 4 + wts (xs ++ ys) = wt x + 4 + wts xs + wts ys; rw [wts_app xs ys]; omega
theorem ibs_app : ∀ (xs ys : List PyData), ibs (xs ++ ys) = max (ibs xs) (ibs ys)
  | [], ys => by show ibs ys = max 0 (ibs ys); omega
  | x :: xs, ys => by show max (ib x) (ibs (xs ++ ys)) = max (max (ib x) (ibs xs)) (ibs ys); rw [ibs_app xs ys]; omega
theorem dps_app : ∀ (xs ys : List PyData), PyData.depthAll (xs ++ ys) = max (PyData.depthAll xs) (PyData.depthAll ys)
  | [], ys => by show PyData.depthAll ys = max 0 _; omega
  | x :: xs, ys => by show max x.depth (PyData.depthAll (xs ++ ys)) = max (max x.depth (PyData.depthAll xs)) _; rw [dps_app xs ys]; omega
theorem Wgs.app {xs ys : List PyData} {n c c' b : Nat} (h : Wgs xs n c b) (t : Wgs ys n c' b) : Wgs (xs ++ ys) n (c + c') b :=
  ⟨by rw [dps_app]; have := h.dep; have := t.dep; omega, by rw [wts_app]; have := h.len; have := t.len; omega, by rw [ibs_app]; have := h.big; have := t.big; omega⟩
theorem Wgs.sub {xs ys : List PyData} {n c b : Nat} (h : Wgs (xs ++ ys) n c b) : Wgs xs n c b ∧ Wgs ys n c b := by
  have h1 := h.dep
  have h2 := h.len
  have h3 := h.big
  rw [dps_app] at h1
  rw [wts_app] at h2
  rw [ibs_app] at h3
  exact ⟨⟨by omega, by omega, by omega⟩, ⟨by omega, by omega, by omega⟩⟩
theorem Wgs.mono {ds : List PyData} {n c b n' c' b' : Nat} (w : Wgs ds n c b) (h1 : n ≤ n') (h2 : c ≤ c') (h3 : b ≤ b') : Wgs ds n' c' b' := ⟨Nat.le_trans w.dep h1, Nat.le_trans w.len h2, Nat.le_trans w.big h3⟩
theorem Wg.tup {ds : List PyData} {n c b : Nat} (h : Wgs ds n c b) : Wg (.tuple ds) (n + 1) (c + 4) b := ⟨by show PyData.depthAll ds + 1 ≤ n + 1; have := h.dep; omega, by show wts ds + 4 ≤ c + 4; have := h.len; omega, h.big⟩
theorem Wg.lst {ds : List PyData} {n c b : Nat} (h : Wgs ds n c b) : Wg (.list ds) (n + 1) (c + 4) b := ⟨by show PyData.depthAll ds + 1 ≤ n + 1; have := h.dep; omega, by show wts ds + 4 ≤ c + 4; have := h.len; omega, h.big⟩
theorem Wg.untup {ds : List PyData} {n c b : Nat} (h : Wg (.tuple ds) n c b) : Wgs ds (n - 1) (c - 4) b := ⟨by have : PyData.depthAll ds + 1 ≤ n := h.dep; omega, by have : wts ds + 4 ≤ c := h.len; omega, h.big⟩
theorem Wgs.mem {ds : List PyData} {n c b : Nat} (h : Wgs ds n c b) {d : PyData} (hd : d ∈ ds) : Wg d n c b := by
  obtain ⟨xs, ys, rfl⟩ := List.append_of_mem hd
  have h2 := (h.sub).2
  refine ⟨?_, ?_, ?_⟩
  · have : max d.depth (PyData.depthAll ys) ≤ n := h2.dep
    omega
  · have : wt d + 4 + wts ys ≤ c := h2.len
    omega
  · have : max (ib d) (ibs ys) ≤ b := h2.big
    omega
theorem Wg.shw {d : PyData} {n c b : Nat} (w : Wg d n c b) (hb : b ≤ 10 ^ 100 := by decide) : d.showable = true := ib_sh d (Nat.le_trans w.big hb)
theorem Wg.sz {d : PyData} {n c b : Nat} (w : Wg d n c b) (hb : b ≤ 10 ^ 100 := by decide) (hc : c ≤ 10000000 := by decide) : d.shown.length ≤ sizeLine := shown_wz (w.shw hb) (Nat.le_trans w.len hc)
theorem ofS_cps (s : String) : ∀ c ∈ (Str.ofString s).cps.toList, c < 16 ^ 8 := by
  intro c hc
  rw [Str.ofString_eq_toList] at hc
  have hc : c ∈ s.toList.map Char.toNat := by simpa using hc
  obtain ⟨ch, _, rfl⟩ := List.mem_map.mp hc
  exact Nat.lt_of_lt_of_le ch.val.toBitVec.isLt (by decide : 2 ^ 32 ≤ 16 ^ 8)
theorem strI_wt (i : Int) (h : i.natAbs ≤ 10 ^ 100) : wt (.str (toString i)) ≤ 20000 := by
  have h0 : i.natAbs.log2 < 1920 := log_lt (by decide) (Nat.lt_of_le_of_lt h (by decide))
  have h1 := PyProof.Rows.int_text_len_1921 h0
  have h2 := StrLaws.reprText_len (toString i : String) (ofS_cps _)
  show (reprText (toString i : String)).length + 1 ≤ 20000
  omega
/-! ### things whose lists are none of some (wants odd0) -/
inductive ThL (K : PySem.W.Frag) (S : Addr → Prop) (H : Hp) : V → PyData → Prop
  | non : ThL K S H .non .none
  | bl (b : Bool) : ThL K S H (.bl b) (.bool b)
  | int (i : Int) : ThL K S H (.int i) (.int i)
  | str (x : Str) : ThL K S H (.str x) (.str x)
  | tup {a : Addr} {tr : List (V × PyData)} : H a = some (.tup (tr.map fun t => t.1)) → (∀ t ∈ tr, ThL K S H t.1 t.2) → ThL K S H (.ref a) (.tuple (tr.map fun t => t.2))
  | lst {a : Addr} {tr : List (V × PyData)} : ¬ S a → a ≠ sysModules → H a = some (.lst (tr.map fun t => t.1)) → (∀ t ∈ tr, ThL K S H t.1 t.2) → ThL K S H (.ref a) (.list (tr.map fun t => t.2))
  | dct {a : Addr} {tr : List (Int × V × PyData)} : H a = some (.dK (tr.map fun t => (Sum.inl t.1, t.2.1))) → (∀ t ∈ tr, ThL K S H t.2.1 t.2.2) → ThL K S H (.ref a) (.dict (tr.map fun t => (.int t.1, t.2.2)))
theorem ThL.th {K : PySem.W.Frag} {S : Addr → Prop} {p : Addr} {H : Hp} {v : V} {d : PyData} (h : ThL K S H v d) (hp : S p) : Th K p H v d := by
  induction h with
  | non => exact .non
  | bl b => exact .bl b
  | int i => exact .int i
  | str x => exact .str x
  | tup h1 _ ih => exact .tup h1 ih
  | lst n1 n2 h1 _ ih => exact .lst (fun z => n1 (z ▸ hp)) n2 h1 ih
  | dct h1 _ ih => exact .dct h1 ih
theorem ThL.same {K : PySem.W.Frag} {S : Addr → Prop} {H H' : Hp} {v : V} {d : PyData} (h : ThL K S H v d) (e : Same H H') : ThL K S H' v d := by
  induction h with
  | non => exact .non
  | bl b => exact .bl b
  | int i => exact .int i
  | str x => exact .str x
  | tup h1 _ ih => exact .tup (e _ _ h1) ih
  | lst n1 n2 h1 _ ih => exact .lst n1 n2 (e _ _ h1) ih
  | dct h1 _ ih => exact .dct (e _ _ h1) ih
/-- tuples, dicts and other lists stay -/
theorem ThL.keep {K : PySem.W.Frag} {S : Addr → Prop} {H H' : Hp} {v : V} {d : PyData} (h : ThL K S H v d) (e1 : ∀ a xs, H a = some (.tup xs) → H' a = some (.tup xs)) (e2 : ∀ a xs, ¬ S a → H a = some (.lst xs) → H' a = some (.lst xs)) (e3 : ∀ a kvs, H a = some (.dK kvs) → H' a = some (.dK kvs)) : ThL K S H' v d := by
  induction h with
  | non => exact .non
  | bl b => exact .bl b
  | int i => exact .int i
  | str x => exact .str x
  | tup h1 _ ih => exact .tup (e1 _ _ h1) ih
  | lst n1 n2 h1 _ ih => exact .lst n1 n2 (e2 _ _ n1 h1) ih
  | dct h1 _ ih => exact .dct (e3 _ _ h1) ih
theorem ThL.but {K : PySem.W.Frag} {S : Addr → Prop} {p : Addr} {H H' : Hp} {v : V} {d : PyData} {ys : List V} (h : ThL K S H v d) (hs : S p) (e : But p H H') (hp : H p = some (.lst ys)) : ThL K S H' v d :=
  h.keep (fun a xs h1 => e _ _ (ne_of h1 hp (by intro z; cases z)) h1) (fun a xs n h1 => e _ _ (fun z => n (z ▸ hs)) h1) (fun a kvs h1 => e _ _ (ne_of h1 hp (by intro z; cases z)) h1)
theorem ThL.mono {K : PySem.W.Frag} {S T : Addr → Prop} {H : Hp} {v : V} {d : PyData} (h : ThL K S H v d) (e : ∀ a, T a → S a) : ThL K T H v d := by
  induction h with
  | non => exact .non
  | bl b => exact .bl b
  | int i => exact .int i
  | str x => exact .str x
  | tup h1 _ ih => exact .tup h1 ih
  | lst n1 n2 h1 _ ih => exact .lst (fun z => n1 (e _ z)) n2 h1 ih
  | dct h1 _ ih => exact .dct h1 ih
/-! ### numbers within bounds, as things (wants odd0) -/
def isR (d : PyData) (a b : Int) : Bool := match d with
  | .int i => decide (a ≤ i) && decide (i ≤ b)
  | _ => false
def isF (d : PyData) (a : Int) : Bool := match d with
  | .int i => decide (a ≤ i)
  | _ => false
theorem isR_no {d : PyData} {a b : Int} (h : isWh d = false) : isR d a b = false := by cases d <;> first | rfl | cases h
theorem isF_no {d : PyData} {a : Int} (h : isWh d = false) : isF d a = false := by cases d <;> first | rfl | cases h
theorem isR_inv {d : PyData} {a b : Int} (h : isR d a b = true) : ∃ i, d = .int i ∧ a ≤ i ∧ i ≤ b := by
  cases d with
  | int i =>
    have h : (decide (a ≤ i) && decide (i ≤ b)) = true := h
    rw [Bool.and_eq_true, decide_eq_true_iff, decide_eq_true_iff] at h
    exact ⟨i, rfl, h.1, h.2⟩
  | _ => cases h
theorem isR_mk {i a b : Int} (h1 : a ≤ i) (h2 : i ≤ b) : isR (.int i) a b = true := by
  show (decide (a ≤ i) && decide (i ≤ b)) = true
  rw [decide_eq_true h1, decide_eq_true h2] <;> rfl
theorem isF_inv {d : PyData} {a : Int} (h : isF d a = true) : ∃ i, d = .int i ∧ a ≤ i := by
  cases d with
  | int i => exact ⟨i, rfl, of_decide_eq_true h⟩
  | _ => cases h
/-- bounds, the upper one perhaps none -/
def oW : Option Int → V
  | none => .non
  | some i => .int i
def isB (d : PyData) (a : Int) : Option Int → Bool
  | none => isF d a
  | some b => isR d a b
theorem isB_no {d : PyData} {a : Int} {o : Option Int} (h : isWh d = false) : isB d a o = false := by
  cases o with
  | none => exact isF_no h
  | some b => exact isR_no h
theorem isB_low {i a : Int} {o : Option Int} (h : i < a) : isB (.int i) a o = false := by
  cases o with
  | none => exact decide_eq_false (by omega)
  | some b =>
    show (decide (a ≤ i) && decide (i ≤ b)) = false
    rw [decide_eq_false (by omega), Bool.false_and]
theorem isB_hi {i a b : Int} (h : b < i) : isB (.int i) a (some b) = false := by
  show (decide (a ≤ i) && decide (i ≤ b)) = false
  rw [decide_eq_false (show ¬ i ≤ b by omega), Bool.and_false]
section
variable {P : Program} {w : World} {K : PySem.W.Frag} {mg : Str → Option Value} {base : Heap} (B : Bl K mg)
include B
/-! ### the law's own -/
def spFigs : Sp := fun vs H Q _ => ∃ k n : Nat, vs = [.int k, .int n] ∧ k ≤ 4 ∧ ∀ D H', Same H H' → H D = none → H' D = some (.lst ((figs k n).map V.int)) → Q (.ref D) H'
theorem k__law_figures (D : Df K mg "_law_figures" s__law_figures ["_law_k", "_law_number_here"]) : Dn P w K mg base 1 "_law_figures" ["_law_k", "_law_number_here"] spFigs := by
  refine D.ok fun f fd F => okG0 F sc__law_figures (fun vs H Q E h => ?_) (fun cdv A outer s H vs Q E hr h => ⟨_, (pss_one (ps_ret (pe_lc (own := [("_law_at", 2)]) (g := gName 2) (tt := tYes) rfl sc__law_figures.nd (pi_range1 (by rfl) B.range_ (pa_cons (pv 0) pa_nil)) (blkOk_by (own := [("_law_at", 2)]) (N := ["_law_k", "_law_number_here", "_law_at"]) (sc := defScope s__law_figures) (by decide +kernel)) (fun _ _ _ _ _ => (pg_name (i := 2) sc__law_figures.nd rfl (Or.inl rfl))) (fun _ _ _ _ _ => pts_nil) (fun _ _ _ _ _ => (pe_op op_and (pe_op op_shr (pv 1) (pe_op op_sub (pe_op op_sub (pv 0) pe_int) (pv 2))) pe_int))))), ?_⟩)
  · obtain ⟨k, n, rfl, _⟩ := h; rfl
  · obtain ⟨k, n, rfl, h1, q⟩ := h
    refine ⟨_, rfl, _, rfl, by omega, by omega, fun D hD => ?_⟩
    have e : ((k : Int)).toNat = k := by omega
    rw [e]
    refine lc_range (lo := 0) (n := k) (fun i H2 => Same H H2 ∧ H2 D = some (.lst (((List.range i).map (fig k n)).map V.int))) ⟨same_new hD _, upd_same⟩ ?_ ?_
    · rintro i H2 hi ⟨S2, hD2⟩
      refine ⟨rfl, _, rfl, _, rfl, _, _, rfl, rfl, _, rfl, _, _, rfl, rfl, _, _, rfl, rfl, by omega, _, _, rfl, rfl, ?_⟩
      refine ⟨_, hD2, small1000 (by rw [List.length_map, List.length_map, List.length_range]; omega), but_same hD S2 But.upd, ?_⟩
      rw [upd_same, List.range_succ, List.map_append, List.map_append]
      show some (HO.lst (_ ++ [V.int (Builtin.bitAnd ((n : Int) / 2 ^ ((k : Int) - 1 - (0 + (i : Int))).toNat) 1)])) = _
      rw [Int.zero_add] <;> rfl
    · rintro H2 ⟨S2, hD2⟩
      exact q D _ S2 hD hD2
def spNum (K : PySem.W.Frag) : Sp := fun vs H Q _ => ∃ (D : Addr) (fs : List Int), vs = [.ref D] ∧ SqL K H D (fs.map V.int) ∧ Bits fs ∧ Q (.int (num fs)) H
theorem k__law_number (D : Df K mg "_law_number" s__law_number ["_law_figures_here"]) : Dn P w K mg base 1 "_law_number" ["_law_figures_here"] (spNum K) := by
  refine D.ok fun f fd F => okG0 F sc__law_number (fun vs H Q E h => ?_) (fun cdv A outer s H vs Q E hr h => ⟨_, (pss_cons (ps_set (i := 1) sc__law_number.nd rfl (Or.inl rfl) pe_int)
    (pss_cons (ps_for PassesOwn.never rfl (kk (K := K) (F := fun K => iList K _) (P := PI _ _ _) (pi_list (pv 0))) (pg_name (i := 2) sc__law_number.nd rfl (Or.inl rfl))
      (pss_one (ps_set (i := 1) sc__law_number.nd rfl (Or.inl rfl) (pe_op op_add (pe_op op_mulX pe_int (pv 1)) (pv 2)))))
    (pss_one (ps_ret (pv 1))))), ?_⟩)
  · obtain ⟨D, fs, rfl, _⟩ := h; rfl
  · obtain ⟨D, fs, rfl, hD, hb, q⟩ := h
    refine ⟨_, rfl, D, rfl, ⟨_, hD⟩, ?_⟩
    refine for_list (K := K) (a := D) (xs := fs.map V.int) (fun i σ H2 => H2 = H ∧ ∃ v : Option V, σ = [some (.ref D), some (.int (num (fs.take i))), v]) ⟨rfl, none, rfl⟩ (fun i σ H2 _ h => by rw [h.1]; exact hD) ?_ ?_
    · rintro i y σ H2 hi ⟨rfl, v, rfl⟩
      obtain ⟨x, rfl, hx⟩ := at_map hi
      have hil := (List.getElem?_eq_some_iff.mp hx).1
      obtain ⟨n1, n2⟩ := num_in i hb
      have hl := hb.2
      have n3 : num (fs.take i) < 2 ^ 10 := Int.lt_of_lt_of_le n2 ((by decide : ∀ i, i < 11 → (2 : Int) ^ i ≤ 2 ^ 10) i (by omega))
      refine ⟨_, rfl, _, _, rfl, rfl, mulx 2 10 (by decide) (by omega), _, rfl, _, _, rfl, rfl, rfl, some (.int x), ?_⟩
      rw [show fs.take (i + 1) = fs.take i ++ [x] by rw [List.take_succ, hx] <;> rfl, num_snoc] <;> rfl
    · rintro σ H2 ⟨rfl, v, rfl⟩
      rw [List.length_map, List.take_length]
      exact ⟨_, rfl, q⟩
def spRich (K : PySem.W.Frag) : Sp := fun vs H Q _ => ∃ (c : Int) (tn : Nat), vs = [.int c, .int tn] ∧ tn ≤ 100000 ∧ ∀ n H', Same H H' → 0 ≤ n → Q (.int n) H'
theorem k__law_rich (D : Df K mg "_law_rich" s__law_rich ["_law_cell", "_law_turn"]) : Dn P w K mg base 1 "_law_rich" ["_law_cell", "_law_turn"] (spRich K) := by
  refine D.ok fun f fd F => okG0 F sc__law_rich (fun vs H Q E h => ?_) (fun cdv A outer s H vs Q E hr h => ⟨_, (pss_cons (ps_set (i := 2) sc__law_rich.nd rfl (Or.inl rfl) pe_int)
    (pss_cons (ps_for PassesOwn.never rfl (kk (K := K) (F := fun K => iEnumT K _) (P := PI _ _ _) (pi_enumT (by rfl) B.enumerate_ (pa_cons (pe_tup (pa_cons pe_int (pa_cons pe_int (pa_cons pe_int (pa_cons pe_int (pa_cons pe_int (pa_cons pe_int pa_nil))))))) pa_nil))) (kk (K := K) (F := fun K => gTup K 2 _) (P := PG _ _) (pg_tup rfl (pgs_cons (pg_name (i := 3) sc__law_rich.nd rfl (Or.inl rfl)) (pgs_cons (pg_name (i := 4) sc__law_rich.nd rfl (Or.inl rfl)) pgs_nil))))
      (pss_cons (ps_set (i := 5) sc__law_rich.nd rfl (Or.inl rfl) (pe_op op_mod (pe_op op_mulX (pe_op op_add (pe_op op_mod (pe_callB call_abs (by rfl) B.abs_ (by decide +kernel) (pa_cons (pv 0) pa_nil)) (pv 4)) pe_int) (pe_op op_add (pe_op op_add (pe_op op_mulX pe_int (pv 1)) (pe_op op_mulX pe_int (pv 3))) pe_int)) (pv 4)))
      (pss_one (ps_set (i := 2) sc__law_rich.nd rfl (Or.inl rfl) (pe_op op_add (pe_op op_mulX (pv 2) (pv 4)) (pe_op op_mod (pe_op op_add (pe_op op_add (pe_op op_pow (pv 5) pe_int) (pe_op op_mulX pe_int (pv 5))) (pv 3)) (pv 4)))))))
    (pss_one (ps_ret (pv 2))))), ?_⟩)
  · obtain ⟨c, tn, rfl, _⟩ := h; rfl
  · obtain ⟨c, tn, rfl, ht, q⟩ := h
    refine ⟨sz, fun t ht2 => ⟨t, _, rfl, SqT.of upd_same, ?_⟩⟩
    have S1 := same_new ht2 (.tup [.int 2147483647, .int 2147483629, .int 2147483587, .int 2147483579, .int 2147483563, .int 2147483549])
    refine for_enumT (K := K) (a := t) (xs := [.int 2147483647, .int 2147483629, .int 2147483587, .int 2147483579, .int 2147483563, .int 2147483549]) (fun i σ H2 => ∃ (f : Int) (v3 v4 v5 : Option V), σ = [some (.int c), some (.int tn), some (.int f), v3, v4, v5] ∧ Same H H2 ∧ H2 t = some (.tup [.int 2147483647, .int 2147483629, .int 2147483587, .int 2147483579, .int 2147483563, .int 2147483549]) ∧ 0 ≤ f ∧ f < 2 ^ (32 * i + 1)) ⟨1, none, none, none, rfl, S1, upd_same, by decide, by decide⟩ (fun i σ H2 _ h => by obtain ⟨_, _, _, _, _, _, h2, _⟩ := h; exact SqT.of h2) ?_ ?_
    · rintro i y T σ H2 hi ⟨f, v3, v4, v5, rfl, S2, ht3, f0, f1⟩ hT
      obtain ⟨z, hz, z0, z1⟩ := primes6 i (by have := (List.getElem?_eq_some_iff.mp hi).1; exact this)
      rw [hz] at hi
      cases (Option.some.inj hi)
      have hi6 : i < 6 := (List.getElem?_eq_some_iff.mp hz).1
      have f2 : f < 2 ^ 200 := Int.lt_of_lt_of_le f1 ((by decide : ∀ i, i < 6 → (2 : Int) ^ (32 * i + 1) ≤ 2 ^ 200) i hi6)
      have m1 := Int.emod_nonneg (if c < 0 then -c else c) (by omega : z ≠ 0)
      have m2 := Int.emod_lt_of_pos (if c < 0 then -c else c) (by omega : 0 < z)
      have S3 := same_new hT (.tup [.int i, .int z])
      refine ⟨T, _, rfl, SqT.of upd_same, rfl, _, _, rfl, _, _, rfl, rfl, ?_⟩
      refine ⟨_, rfl, _, rfl, _, rfl, _, _, rfl, rfl, by omega, _, _, rfl, rfl, ?_⟩
      refine ⟨_, rfl, _, _, rfl, rfl, mulx 3 20 (by decide) (by omega), _, rfl, _, _, rfl, rfl, mulx 20 3 (by decide) (by omega), _, _, rfl, rfl, _, _, rfl, rfl, _, _, rfl, rfl, mulx 33 30 (by omega) (by omega), _, rfl, _, _, rfl, rfl, by omega, ?_⟩
      have g1 := Int.emod_nonneg (((if c < 0 then -c else c) % z + 1) * (7 * (tn : Int) + 1000003 * (i : Int) + 68)) (by omega : z ≠ 0)
      have g2 := Int.emod_lt_of_pos (((if c < 0 then -c else c) % z + 1) * (7 * (tn : Int) + 1000003 * (i : Int) + 68)) (by omega : 0 < z)
      obtain ⟨sd, hsd⟩ : ∃ sd : Int, sd = (((if c < 0 then -c else c) % z + 1) * (7 * (tn : Int) + 1000003 * (i : Int) + 68)) % z := ⟨_, rfl⟩
      rw [← hsd] at g1 g2
      refine ⟨_, rfl, _, rfl, _, _, rfl, rfl, mulx 200 32 (by omega) (by omega), _, rfl, _, _, rfl, rfl, ⟨by decide, by decide, by omega⟩, _, rfl, _, _, rfl, rfl, mulx 16 32 (by decide) (by omega), _, _, rfl, rfl, _, rfl, _, _, rfl, rfl, _, rfl, _, _, rfl, rfl, by omega, _, _, rfl, rfl, ?_⟩
      have e1 := Int.emod_nonneg (sd ^ Int.toNat 5 + 40693 * sd + (i : Int)) (by omega : z ≠ 0)
      have e2 := Int.emod_lt_of_pos (sd ^ Int.toNat 5 + 40693 * sd + (i : Int)) (by omega : 0 < z)
      have e3 : 0 ≤ f * z := Int.mul_nonneg f0 (by omega)
      have e4 : f * z ≤ f * 2147483647 := Int.mul_le_mul_of_nonneg_left z1 f0
      have e5 : (2 : Int) ^ (32 * (i + 1) + 1) = 2 ^ (32 * i + 1) * 2 ^ 32 := by rw [← Int.pow_add]; exact congrArg (fun n : Nat => (2 : Int) ^ n) (by omega)
      rw [hsd] at e1 e2
      refine ⟨_, _, _, _, rfl, S2.trans S3, S3 _ _ ht3, by omega, ?_⟩
      rw [e5]
      omega
    · rintro σ H2 ⟨f, v3, v4, v5, rfl, S2, ht3, f0, f1⟩
      exact ⟨_, rfl, q f _ S2 f0⟩
def PurseAt (H : Hp) (p : Addr) (cap : Nat) : Prop := ∃ (a c : Int) (tn : Nat), H p = some (.lst [.int a, .int c, .int tn]) ∧ 0 ≤ a ∧ tn ≤ cap
theorem PurseAt.same {H H' : Hp} {p : Addr} {n : Nat} (e : Same H H') (h : PurseAt H p n) : PurseAt H' p n := by
  obtain ⟨a, c, t, h1, h2⟩ := h; exact ⟨a, c, t, e _ _ h1, h2⟩
theorem PurseAt.upd {H : Hp} {p D : Addr} {o : HO} {n : Nat} (e : p ≠ D) (h : PurseAt H p n) : PurseAt (L2.upd H D o) p n := by
  obtain ⟨a, c, t, h1, h2⟩ := h; exact ⟨a, c, t, by rw [upd_ne e]; exact h1, h2⟩
theorem purse_ne {H : Hp} {p a : Addr} {n : Nat} (h : PurseAt H p n) (m : H a = none) : a ≠ p := fun z => by obtain ⟨_, _, _, h1, _⟩ := h; rw [← z, m] at h1; cases h1
def spPurse (K : PySem.W.Frag) : Sp := fun vs H Q _ => ∃ (a : Addr) (ns : List Int) (k : Nat), vs = [.ref a, .int k] ∧ SqL K H a (ns.map V.int) ∧ k ≤ 60 ∧ ∀ p H', H p = none → Same H H' → PurseAt H' p 60 → Q (.ref p) H'
theorem k__law_purse (D : Df K mg "_law_purse" s__law_purse ["_law_script", "_law_k"]) : Dn P w K mg base 1 "_law_purse" ["_law_script", "_law_k"] (spPurse K) := by
  refine D.ok fun f fd F => okG0 F sc__law_purse (fun vs H Q E h => ?_) (fun cdv A outer s H vs Q E hr h => ⟨_, (pss_cons (ps_set (i := 2) sc__law_purse.nd rfl (Or.inl rfl) (pe_ifExp (pt_cmpR op_lt (pv 1) (pe_callB (lenK (K := K)) (by rfl) B.len_ (by decide +kernel) (pa_cons (pv 0) pa_nil)) (nomark _)) (pe_ix (kk (K := K) (F := rIxL) (P := IxR _) ix_list) (pv 0) (pv 1) (fun _ _ => rfl)) pe_int))
    (pss_one (ps_ret (pe_lst (pa_cons (pe_callB (call_max2 rfl) (by rfl) B.max_ (by decide +kernel) (pa_cons pe_int (pa_cons (pe_op op_sub (pv 2) (pe_op op_pow pe_int pe_int)) pa_nil))) (pa_cons (pv 2) (pa_cons (pv 1) pa_nil))))))), ?_⟩)
  · obtain ⟨a, ns, k, rfl, _⟩ := h; rfl
  · obtain ⟨a, ns, k, rfl, hs, hk, q⟩ := h
    refine ⟨_, rfl, _, rfl, a, _, rfl, .inl hs, _, _, rfl, rfl, _, rfl, ?_⟩
    refine ifE (fun v H' => H' = H ∧ ∃ c : Int, v = .int c) ?_ (fun c Q' q' => ?_) (fun c Q' q' => q' _ _ ⟨rfl, 0, rfl⟩)
    · rintro _ _ ⟨rfl, c, rfl⟩
      refine ⟨_, rfl, _, _, rfl, rfl, ⟨by decide, by decide, by decide⟩, _, _, rfl, rfl, _, _, rfl, _, rfl, _, rfl, sz, fun p hp => ?_⟩
      refine q p _ hp (same_new hp _) ⟨_, _, _, upd_same, ?_, hk⟩
      split <;> omega
    · have c' : (k : Int) < ((ns.map V.int).length : Nat) := of_decide_eq_true c
      have hk2 : k < ns.length := by rw [List.length_map] at c'; omega
      refine ⟨_, rfl, _, rfl, a, _, _, _, rfl, rfl, hs, at_of (j := k) rfl (by rw [List.getElem?_map, List.getElem?_eq_getElem hk2] <;> rfl), ?_⟩
      exact q' _ _ ⟨rfl, _, rfl⟩
def spTakeP (K : PySem.W.Frag) : Sp := fun vs H Q _ => ∃ (p : Addr) (m : Int) (cap : Nat), vs = [.ref p, .int m] ∧ PurseAt H p cap ∧ cap ≤ 90000 ∧ 1 ≤ m ∧ m < 2 ^ 200 ∧ ∀ (d : Int) H', 0 ≤ d → d < m → But p H H' → PurseAt H' p (cap + 64) → Q (.int d) H'
theorem k__law_take (D : Df K mg "_law_take" s__law_take ["_law_purse_here", "_law_many"]) (D__law_rich : Dn P w K mg base 1 "_law_rich" ["_law_cell", "_law_turn"] (spRich K)) : Dn P w K mg base 2 "_law_take" ["_law_purse_here", "_law_many"] (spTakeP K) := by
  refine D.ok fun f fd F => okG0 F sc__law_take (fun vs H Q E h => ?_) (fun cdv A outer s H vs Q E hr h => ⟨_, (pss_cons (ps_if (pt_cmpR op_eq (pe_ix (kk (K := K) (F := rIxL) (P := IxR _) ix_list) (pv 0) pe_int (fun _ _ => rfl)) pe_int (nomark _))
      (pss_cons (ps_asg (pe_cD D__law_rich (hr.less (by decide)) rfl (pa_cons (pe_ix (kk (K := K) (F := rIxL) (P := IxR _) ix_list) (pv 0) pe_int (fun _ _ => rfl)) (pa_cons (pe_ix (kk (K := K) (F := rIxL) (P := IxR _) ix_list) (pv 0) pe_int (fun _ _ => rfl)) pa_nil))) (pg_sub (pv 0) pe_int set_list))
      (pss_one (ps_asg (pe_op op_add (pe_ix (kk (K := K) (F := rIxL) (P := IxR _) ix_list) (pv 0) pe_int (fun _ _ => rfl)) pe_int) (pg_sub (pv 0) pe_int set_list))))
      pss_nil)
    (pss_cons (ps_set (i := 2) sc__law_take.nd rfl (Or.inl rfl) (pe_op op_mod (pe_ix (kk (K := K) (F := rIxL) (P := IxR _) ix_list) (pv 0) pe_int (fun _ _ => rfl)) (pv 1)))
    (pss_cons (ps_asg (pe_op op_fdivW (pe_ix (kk (K := K) (F := rIxL) (P := IxR _) ix_list) (pv 0) pe_int (fun _ _ => rfl)) (pv 1)) (pg_sub (pv 0) pe_int set_list))
    (pss_one (ps_ret (pv 2)))))), ?_⟩)
  · obtain ⟨p, m, cap, rfl, _⟩ := h; rfl
  · obtain ⟨p, m, cap, rfl, ⟨a, c, tn, hp, ha, ht⟩, hcap, hm, hm2, q⟩ := h
    have key : ∀ (a : Int) (tn : Nat) (H2 : Hp), But p H H2 → H2 p = some (.lst [.int a, .int c, .int tn]) → 0 ≤ a → tn ≤ cap + 64 → H2 p = some (.lst [.int a, .int c, .int tn]) ∧ PurseAt (upd H2 p (.lst [.int (a / m), .int c, .int tn])) p (cap + 64) ∧ But p H (upd H2 p (.lst [.int (a / m), .int c, .int tn])) ∧ 0 ≤ a % m ∧ a % m < m := by
      intro a tn H2 b h1 h2 h3
      refine ⟨h1, ⟨_, _, _, upd_same, Int.ediv_nonneg h2 (by omega), h3⟩, b.trans But.upd, Int.emod_nonneg _ (by omega), Int.emod_lt_of_pos _ (by omega)⟩
    refine ⟨_, rfl, p, _, _, _, rfl, rfl, SqL.of hp, at_of (j := 0) rfl rfl, rfl, _, rfl, ite2 (fun e => ?_) (fun e => ?_)⟩
    · refine ⟨_, rfl, p, _, _, _, rfl, rfl, SqL.of hp, at_of (j := 1) rfl rfl, _, rfl, p, _, _, _, rfl, rfl, SqL.of hp, at_of (j := 2) rfl rfl, c, tn, rfl, by omega, fun n H1 S1 n0 => ?_⟩
      have hp1 := S1 _ _ hp
      refine ⟨_, rfl, p, _, _, _, rfl, rfl, hp1, rfl, ?_⟩
      refine ⟨_, rfl, p, _, _, _, rfl, rfl, SqL.of upd_same, at_of (j := 2) rfl rfl, _, _, rfl, rfl, ?_⟩
      refine ⟨_, rfl, p, _, _, _, rfl, rfl, upd_same, rfl, ?_⟩
      obtain ⟨k1, k2, k3, k4, k5⟩ := key n (tn + 64) _ (((same_but S1).trans But.upd).trans But.upd) upd_same n0 (by omega)
      refine ⟨_, rfl, p, _, _, _, rfl, rfl, SqL.of k1, at_of (j := 0) rfl rfl, _, rfl, _, _, rfl, rfl, by omega, ?_⟩
      refine ⟨_, rfl, p, _, _, _, rfl, rfl, SqL.of k1, at_of (j := 0) rfl rfl, _, rfl, _, _, rfl, rfl, wide_div (b := 200) (by omega) (by omega) (by decide) (by decide), ?_⟩
      refine ⟨_, rfl, p, _, _, _, rfl, rfl, k1, rfl, _, rfl, ?_⟩
      exact q _ _ k4 k5 k3 k2
    · obtain ⟨k1, k2, k3, k4, k5⟩ := key a tn H (same_but (Same.refl H)) hp ha (by omega)
      refine ⟨_, rfl, p, _, _, _, rfl, rfl, SqL.of k1, at_of (j := 0) rfl rfl, _, rfl, _, _, rfl, rfl, by omega, ?_⟩
      refine ⟨_, rfl, p, _, _, _, rfl, rfl, SqL.of k1, at_of (j := 0) rfl rfl, _, rfl, _, _, rfl, rfl, wide_div (b := 200) (by omega) (by omega) (by decide) (by decide), ?_⟩
      refine ⟨_, rfl, p, _, _, _, rfl, rfl, k1, rfl, _, rfl, ?_⟩
      exact q _ _ k4 k5 k3 k2
/-! SPLIT -/
local macro_rules | `(tactic| walk_at "own") => `(tactic| fail)
local macro_rules | `(tactic| walk_at "sm") => `(tactic| first
  | with_reducible assumption
  | exact fun _ _ z => z
  | (apply Toy.same_bk; (with_reducible assumption); walk_at "sm")
  | solve_by_elim only [Toy.same_bk, *])
local macro_rules | `(tactic| walk_at "hp") => `(tactic| ((with_reducible refine (?_ : _ = some _)); first
  | with_reducible assumption
  | exact L2.upd_same
  | (apply Toy.hp_new; assumption; walk_at "hp")
  | (apply Toy.hp_at; (with_reducible assumption); walk_at "sm")))
local macro_rules | `(tactic| walk_at "sql") => `(tactic| first
  | with_reducible assumption
  | (apply L2.SqL.of; walk_at "hp")
  | (apply Toy.sql_at; (with_reducible assumption); walk_at "sm"))
local macro_rules | `(tactic| walk_at "sqt") => `(tactic| first
  | with_reducible assumption
  | (apply L2.SqT.of; walk_at "hp")
  | (apply Toy.sqt_at; (with_reducible assumption); walk_at "sm"))
local macro_rules | `(tactic| walk_at "ar") => `(tactic| first
  | with_reducible refine (?_ : (_ : Int) < _)
  | with_reducible refine (?_ : (_ : Int) ≤ _)
  | with_reducible refine (?_ : (_ : Nat) < _)
  | with_reducible refine (?_ : (_ : Nat) ≤ _)
  | with_reducible refine (?_ : (_ : Int) = _)
  | with_reducible refine (?_ : (_ : Nat) = _)
  | with_reducible refine (?_ : ¬ _)
  | with_reducible refine (?_ : _ ∧ _))
local macro_rules | `(tactic| walk_at "om") => `(tactic| (walk_at "ar"; omega))
local macro_rules | `(tactic| walk_at "num") => `(tactic| first
  | (walk_at "ar"; first
    | omega
    | (simp only [List.length_map, List.length_append, List.length_cons, List.length_nil, List.length_replicate, List.length_take, List.length_drop, List.length_range, List.length_set, List.length_reverse] <;> omega)
    | decide
    | (split <;> split <;> omega)
    | (split <;> omega))
  | decide)
local macro_rules | `(tactic| walk_at "side") => `(tactic| first
  | with_reducible rfl
  | walk_at "om"
  | with_reducible assumption
  | exact Toy.sz
  | (apply L2.SqL.of; walk_at "hp")
  | (apply L2.SqT.of; walk_at "hp")
  | (with_reducible apply Or.inl; walk_at "sql")
  | (with_reducible apply Or.inr; walk_at "sqt")
  | (with_reducible apply Exists.intro; walk_at "side")
  | walk_at "hp"
  | exact Eq.refl _
  | (apply Toy.lk1000; walk_at "num")
  | (apply Toy.lt1000; walk_at "num")
  | walk_at "num"
  | (apply Toy.lst_dp; apply L2.SqL.of; walk_at "hp")
  | (apply Toy.tupI_dp; apply L2.SqT.of; walk_at "hp")
  | exact Toy.ints_sh _
  | exact Toy.tupI_sh _
  | (apply L2.RgOk.of_le <;> walk_at "num")
  | (apply L2.atI_nat; assumption)
  | exact L2.Dp.lst (L2.SqL.of (by walk_at "hp")) L2.DpAll.nil
  | exact L2.Dp.tup (L2.SqT.of (by walk_at "hp")) L2.DpAll.nil
  | (apply Toy.ixn; walk_at "num")
  | exact Toy.tyL (by walk_at "hp")
  | walk_at "sql"
  | walk_at "sqt"
  | exact L2.ClsV.ty _
  | (apply L2.TyX.base; first | exact L2.TyOf.int _ | exact L2.TyOf.bl _ | exact L2.TyOf.non | exact L2.TyOf.str _ | (apply L2.TyOf.tup; walk_at "hp") | (apply L2.TyOf.lst; walk_at "hp"))
  | exact L2.kit_ty (r := true) (by decide +kernel)
  | exact L2.kit_ty (r := false) (by decide +kernel)
  | walk_at "own"
  | assumption
  | (walk_at "ar"; solve_by_elim only [Toy.hp_same, Toy.hp_new, L2.upd_same, *]))
local macro_rules | `(tactic| walk_at "go") => `(tactic| first
  | (apply And.intro; (focus (walk_at "side")); try walk_at "go")
  | (apply Exists.intro; rotate_left; (fail_if_success (with_reducible refine (?_ : Nat → _ → _))); (fail_if_success (with_reducible refine (?_ : L2.St → _ → _))); rotate_right; try walk_at "go")
  | (apply Or.inl; apply And.intro; (focus (walk_at "sql")); try walk_at "go")
  | (apply Or.inr; apply And.intro; (focus (walk_at "sqt")); try walk_at "go"))
/-! ENDM -/
def spWhT (K : PySem.W.Frag) : Sp := fun vs H Q _ => ∃ (v : V) (d : PyData) (p : Addr), vs = [v] ∧ Th K p H v d ∧ Q (.bl (isWh d)) H
theorem k_is_whole (D : Df K mg "is_whole" s_is_whole ["thing"]) : Dn P w K mg base 1 "is_whole" ["thing"] (spWhT K) := by
  refine D.ok fun f fd F => okG0 F sc_is_whole (fun vs H Q E h => ?_) (fun cdv A outer s H vs Q E hr h => ⟨_, (pss_one (ps_ret (pe_and (pe_callB (kk (K := K) (F := rIsi) (P := CallR _ _) call_isi) (by rfl) B.isinstance_ (by decide +kernel) (pa_cons (pv 0) (pa_cons (pe_bltn (v := .ty "int") (u := .type "int") (by rfl) B.int_ (by decide +kernel) rfl) pa_nil))) (pe_one (pe_not (pe_callB (kk (K := K) (F := rIsi) (P := CallR _ _) call_isi) (by rfl) B.isinstance_ (by decide +kernel) (pa_cons (pv 0) (pa_cons (pe_bltn (v := .ty "bool") (u := .type "bool") (by rfl) B.bool_ (by decide +kernel) rfl) pa_nil)))))))), ?_⟩)
  · obtain ⟨v, d, p, rfl, _⟩ := h; rfl
  · obtain ⟨v, d, p, rfl, hd, q⟩ := h
    have ty := hd.ty
    have k1 := kit_in (K := K) d
    have k2 := kit_bl (K := K) d
    rw [isWh_eq] at q
    generalize isIn d = x at k1 q
    generalize isBl d = y at k2 q
    cases x
    all_goals
      try walk_at "go"
      first | exact q | exact ifF rfl q | exact ifT rfl q
def spWithin1 : Sp := fun vs H Q _ => ∃ i a b : Int, vs = [.int i, .int a, .int b] ∧ a ≤ i ∧ i ≤ b ∧ Q (.bl true) H
theorem k_is_within (D : Df K mg "is_within" s_is_within ["thing", "least", "most"]) (D_is_whole : Dn P w K mg base 1 "is_whole" ["thing"] (spWhT K)) : Dn P w K mg base 2 "is_within" ["thing", "least", "most"] spWithin1 := by
  refine D.ok fun f fd F => okG0 F sc_is_within (fun vs H Q E h => ?_) (fun cdv A outer s H vs Q E hr h => ⟨_, (pss_one (ps_ret (pe_and (pe_cD D_is_whole (hr.less (by decide)) rfl (pa_cons (pv 0) pa_nil)) (pe_one (pe_chain op_le op_le (pv 1) (pv 0) (pv 2)))))), ?_⟩)
  · obtain ⟨i, a, b, rfl, _⟩ := h; rfl
  · obtain ⟨i, a, b, rfl, h1, h2, q⟩ := h
    have th : Th K (0 : Addr) H (.int i) (.int i) := .int i
    try walk_at "go"
    refine ifT (decide_eq_true h1) ?_
    try walk_at "go"
    show Q (.bl (decide (i ≤ b))) H
    rw [decide_eq_true h2]
    exact q
def spNwo : Sp := fun vs H Q _ => ∃ k l st : Nat, vs = [.int k, .int l, .int st] ∧ k ≤ 4 ∧ st ≤ k ∧ l < 2 ^ k ∧ Q (.int (nwo k l st)) H
theorem k_number_without (D : Df K mg "number_without" s_number_without ["k", "line", "stage"]) : Dn P w K mg base 1 "number_without" ["k", "line", "stage"] spNwo := by
  refine D.ok fun f fd F => okG0 F sc_number_without (fun vs H Q E h => ?_) (fun cdv A outer s H vs Q E hr h => ⟨_, (pss_cons (ps_set (i := 3) sc_number_without.nd rfl (Or.inl rfl) (pe_op op_sub (pv 0) (pv 2)))
    (pss_one (ps_ret (pe_op op_or (pe_op op_shlW (pe_op op_shr (pv 1) (pe_op op_add (pv 3) pe_int)) (pv 3)) (pe_op op_and (pv 1) (pe_op op_sub (pe_op op_shlW pe_int (pv 3)) pe_int)))))), ?_⟩)
  · obtain ⟨k, l, st, rfl, _⟩ := h; rfl
  · obtain ⟨k, l, st, rfl, h1, h2, h3, q⟩ := h
    have h4 := pow16 h1 h3
    refine ⟨_, rfl, _, rfl, _, _, rfl, rfl, ?_⟩
    refine ⟨_, rfl, _, rfl, _, _, rfl, rfl, _, _, rfl, rfl, by omega, _, rfl, _, _, rfl, rfl, shl_small (div_small (Nat.lt_of_lt_of_le h4 (by decide))) (by omega) (by omega), ?_⟩
    refine ⟨_, rfl, _, rfl, _, _, rfl, rfl, shl_small (by decide) (by omega) (by omega), _, _, rfl, rfl, _, _, rfl, rfl, _, _, rfl, rfl, ?_⟩
    exact q
/-! settings as rows of 0 and 1 -/
/-- settings as told -/
def Tbl := Nat → Nat → Int
omit B in
theorem row_len {k : Nat} {s : Nat → Nat → Int} {j : Nat} : (row k s j).length = 2 ^ (k - 1) := by unfold row; rw [List.length_map, List.length_range]
omit B in
theorem row_at {k : Nat} {s : Nat → Nat → Int} {j n : Nat} (h : n < 2 ^ (k - 1)) : (row k s j)[n]? = some (s j n) := by unfold row; rw [List.getElem?_map, List.getElem?_range h] <;> rfl
omit B in
theorem row_bit {k : Nat} {s : Nat → Nat → Int} {j : Nat} (h : Bt s) : ∀ x ∈ row k s j, x = 0 ∨ x = 1 := fun x hx => by
  obtain ⟨n, _, rfl⟩ := List.mem_map.mp hx
  exact h j n
def SeAt (H : Hp) (T : Addr) (k : Nat) (s : Nat → Nat → Int) : Prop := ∃ as : List Addr, H T = some (.tup (as.map V.ref)) ∧ as.length = k ∧ ∀ (j : Nat) (a : Addr), as[j]? = some a → H a = some (.tup ((row k s j).map V.int))
omit B in
theorem SeAt.same {H H' : Hp} {T : Addr} {k : Nat} {s : Nat → Nat → Int} (a : SeAt H T k s) (e : Same H H') : SeAt H' T k s := by
  obtain ⟨as, h1, h2, h3⟩ := a
  exact ⟨as, e _ _ h1, h2, fun j x hx => e _ _ (h3 j x hx)⟩
def nV (ss : List Nat) : List V := ss.map fun n => V.int (n : Nat)
omit B in
theorem nV_snoc {ss : List Nat} {n : Nat} : nV ss ++ [.int (n : Nat)] = nV (ss ++ [n]) := by unfold nV; rw [List.map_append] <;> rfl
omit B in
theorem mV_snoc {α : Type} {f : α → V} {ss : List α} {n : α} : ss.map f ++ [f n] = (ss ++ [n]).map f := by rw [List.map_append] <;> rfl
/-- a side for each hand -/
def sdl (k : Nat) (g : Nat → Nat) : List Nat := (List.range (2 ^ k)).map g
omit B in
theorem sdl_len {k : Nat} {g : Nat → Nat} : (nV (sdl k g)).length = 2 ^ k := by unfold nV sdl; rw [List.length_map, List.length_map, List.length_range]
omit B in
theorem sdl_at {k i : Nat} {g : Nat → Nat} {x : V} (h : (nV (sdl k g))[i]? = some x) : i < 2 ^ k ∧ x = .int (g i : Nat) := by
  have l := (List.getElem?_eq_some_iff.mp h).1
  rw [sdl_len] at l
  unfold nV sdl at h
  rw [List.getElem?_map, List.getElem?_map, List.getElem?_range l] at h
  exact ⟨l, (Option.some.inj h).symm⟩
omit B in
theorem ints_refs {ns : List Int} {rs : List Addr} (h : ns ≠ []) : HO.lst (ns.map V.int) ≠ HO.lst (rs.map V.ref) := fun z => by
  have z2 := HO.lst.inj z
  cases ns with
  | nil => exact h rfl
  | cons n ns =>
    cases rs with
    | nil => cases z2
    | cons r rs => cases z2
/-- the stepper stops here -/
structure Kept (p : Prop) : Prop where
  ex : p
/-- rows of numbers that are written into -/
structure RowsAt (H : Hp) (rs : List Addr) (k : Nat) (c : Nat → Nat → Int) : Prop where
  len : rs.length = k
  inj : ∀ (i j : Nat) (a : Addr), rs[i]? = some a → rs[j]? = some a → i = j
  at_ : ∀ (j : Nat) (a : Addr), rs[j]? = some a → H a = some (.lst ((row k c j).map V.int))
omit B in
theorem row_ne {k j : Nat} {c : Nat → Nat → Int} : row k c j ≠ [] := fun z => by
  have := congrArg List.length z
  rw [row_len] at this
  have h2 := Nat.two_pow_pos (k - 1)
  simp at this
omit B in
theorem RowsAt.upd {H H' : Hp} {rs : List Addr} {k j n : Nat} {c : Nat → Nat → Int} {v : Int} {a : Addr} (R : RowsAt H rs k c) (ha : rs[j]? = some a) (b : But a H H')
    (o : H' a = some (.lst (((row k c j).map V.int).set n (.int v)))) (hn : n < 2 ^ (k - 1)) : RowsAt H' rs k (wr c j n v) := by
  refine ⟨R.len, R.inj, fun i x hx => ?_⟩
  by_cases e : i = j
  · subst e
    rw [ha] at hx
    cases (Option.some.inj hx)
    rw [o, row_wr hn, List.map_set]
  · rw [row_wr_ne e]
    refine b _ _ (fun z => e ?_) (R.at_ i x hx)
    subst z
    exact R.inj i j x hx ha
omit B in
theorem RowsAt.same {H H' : Hp} {rs : List Addr} {k : Nat} {c : Nat → Nat → Int} (R : RowsAt H rs k c) (e : Same H H') : RowsAt H' rs k c := ⟨R.len, R.inj, fun j a h => e _ _ (R.at_ j a h)⟩
omit B in
theorem SeAt.get {H : Hp} {T : Addr} {k j n : Nat} {s : Nat → Nat → Int} (a : SeAt H T k s) (hj : j < k) (hn : n < 2 ^ (k - 1)) : ∃ (as : List Addr) (r : Addr), H T = some (.tup (as.map V.ref)) ∧ atI (as.map V.ref) (j : Int) = some (.ref r) ∧ H r = some (.tup ((row k s j).map V.int)) ∧ atI ((row k s j).map V.int) (n : Int) = some (.int (s j n)) := by
  obtain ⟨as, h1, h2, h3⟩ := a
  have e : as[j]? = some as[j] := List.getElem?_eq_getElem (by omega)
  exact ⟨as, as[j], h1, atI_nat (by rw [List.getElem?_map, e] <;> rfl), h3 _ _ e, atI_nat (by rw [List.getElem?_map, row_at hn] <;> rfl)⟩
omit B in
theorem bit_shl {c : Int} {k j : Nat} (hk : k ≤ 4) (hj : j < k) (h : c = 0 ∨ c = 1) : CShl c ((k : Int) - ((j + 1 : Nat) : Int)) := shl_small (by rcases h with rfl | rfl <;> decide) (by omega) (by omega)
def spNet1 : Sp := fun vs H Q _ => ∃ i : Int, vs = [.int i, .int 4] ∧ 0 ≤ i ∧ i ≤ 4 ∧ Q .non H
theorem k_want_net (D : Dfd K mg "want_net" s_want_net ["k", "deepest"] [.int 4]) (D_is_within : Dn P w K mg base 2 "is_within" ["thing", "least", "most"] spWithin1) : DnD P w K mg base 3 "want_net" ["k", "deepest"] [.int 4] spNet1 := by
  refine D.ok fun f fd F => okG0A F sc_want_net (fun vs H Q E h => ?_) (fun cdv A outer s H vs Q E hr h => ⟨_, (pss_one (ps_if (pt_not (pt_val (pe_cD D_is_within (hr.less (by decide)) rfl (pa_cons (pv 0) (pa_cons pe_int (pa_cons (pv 1) pa_nil))))))
     (pss_one ps_never)
     pss_nil)), ?_⟩)
  · obtain ⟨i, rfl, _⟩ := h; rfl
  · obtain ⟨i, rfl, h1, h2, q⟩ := h
    try walk_at "go"
    exact q
/-- a row of settings, by its data -/
def isSR (k : Nat) : PyData → Bool
  | .tuple ds => decide (ds.length = 2 ^ (k - 1)) && ds.all fun d => isR d 0 1
  | _ => false
/-- settings, by their data -/
def isSe (k : Nat) : PyData → Bool
  | .tuple ds => decide (ds.length = k) && ds.all (isSR k)
  | _ => false
omit B in
theorem isSR_no {k : Nat} {d : PyData} (h : isTu d = false) : isSR k d = false := by cases d <;> first | rfl | cases h
omit B in
theorem isSe_no {k : Nat} {d : PyData} (h : isTu d = false) : isSe k d = false := by cases d <;> first | rfl | cases h
omit B in
theorem all_snd {tr : List (V × PyData)} {f : PyData → Bool} : ((tr.map fun t => f t.2)).all id = (tr.map fun t => t.2).all f := by
  rw [List.all_map, List.all_map] <;> rfl
omit B in
theorem tkS {α β : Type} {l : List α} {f : α → β} {i : Nat} {x : α} (h : l[i]? = some x) : (l.take (i + 1)).map f = (l.take i).map f ++ [f x] := by rw [List.take_succ, h, List.map_append] <;> rfl
omit B in
theorem boolsS {bs : List Bool} {b : Bool} : bs.map V.bl ++ [.bl b] = (bs ++ [b]).map V.bl := by rw [List.map_append] <;> rfl
def spSRT (K : PySem.W.Frag) : Sp := fun vs H Q _ => ∃ (v : V) (d : PyData) (p : Addr) (k : Nat), vs = [.int k, v] ∧ 1 ≤ k ∧ k ≤ 4 ∧ Th K p H v d ∧ ∀ H', Same H H' → Q (.bl (isSR k d)) H'
theorem k_is_setting_row (D : Df K mg "is_setting_row" s_is_setting_row ["k", "thing"]) (D_is_whole : Dn P w K mg base 1 "is_whole" ["thing"] (spWhT K)) : Dn P w K mg base 2 "is_setting_row" ["k", "thing"] (spSRT K) := by
  refine D.ok fun f fd F => okG0 F sc_is_setting_row (fun vs H Q E h => ?_) (fun cdv A outer s H vs Q E hr h => ⟨_, (pss_cons (ps_if (PW.pt (pw_or (pt_not (pt_val (pe_callB (kk (K := K) (F := rIsi) (P := CallR _ _) call_isi) (by rfl) B.isinstance_ (by decide +kernel) (pa_cons (pv 1) (pa_cons (pe_bltn (v := .ty "tuple") (u := .type "tuple") (by rfl) B.tuple_ (by decide +kernel) rfl) pa_nil))))) (pw_or1 (pt_cmpR op_ne (pe_callB (lenK (K := K)) (by rfl) B.len_ (by decide +kernel) (pa_cons (pv 1) pa_nil)) (pe_op op_shlW pe_int (pe_op op_sub (pv 0) pe_int)) (nomark _)))))
      (pss_one (ps_ret pe_bl))
      pss_nil)
    (pss_one (ps_ret (pe_callB (kk (K := K) (F := rAll) (P := CallR _ _) (cr_all rfl)) (by rfl) B.all_ (by decide +kernel) (pa_cons (pe_lc (own := [("number", 2)]) (g := gName 2) (tt := tYes) rfl sc_is_setting_row.nd (kk (K := K) (F := fun K => iTup K _) (P := PI _ _ _) (pi_tup (pv 1))) (blkOk_by (own := [("number", 2)]) (N := ["k", "thing", "number"]) (sc := defScope s_is_setting_row) (by decide +kernel)) (fun _ _ _ _ _ => (pg_name (i := 2) sc_is_setting_row.nd rfl (Or.inl rfl))) (fun _ _ _ _ _ => pts_nil) (fun _ _ _ _ _ => (pe_and (pe_cD D_is_whole (hr.less (by decide)) rfl (pa_cons (pv 2) pa_nil)) (pe_one (pe_chain op_le op_le pe_int (pv 2) pe_int))))) pa_nil))))), ?_⟩)
  · obtain ⟨v, d, p, k, rfl, _⟩ := h; rfl
  · obtain ⟨v, d, p, k, rfl, k1, hk, hd, q⟩ := h
    have e1 : (k : Int) - 1 = ((k - 1 : Nat) : Int) := by omega
    have hsh : CShl 1 ((k : Int) - 1) := by rw [e1]; exact shl_ok (by omega)
    have eL : (1 : Int) * 2 ^ (((k : Nat) : Int) - 1).toNat = ((2 ^ (k - 1) : Nat) : Int) := by rw [Int.one_mul, e1, Int.toNat_natCast]; push_cast; rfl
    have e8 : 2 ^ (k - 1) ≤ 8 := (Nat.pow_le_pow_right (by decide) (by omega) : 2 ^ (k - 1) ≤ 2 ^ 3)
    have ty := hd.ty
    have kt := kit_tu (K := K) d
    cases e : isTu d with
    | false =>
      rw [e] at kt
      rw [isSR_no e] at q
      try walk_at "go"
      exact q H (Same.refl _)
    | true =>
      rw [e] at kt
      obtain ⟨ds, rfl⟩ := isTu_inv e
      obtain ⟨a, tr, rfl, rfl, ha, htr⟩ := hd.tup_inv
      have lm : (tr.map fun t => t.1).length = tr.length := List.length_map _
      have lm2 : (tr.map fun t => t.2).length = tr.length := List.length_map _
      try walk_at "go"
      by_cases el : tr.length = 2 ^ (k - 1)
      · refine ifF (show (!decide (V.int ((tr.map fun t => t.1).length : Nat) = V.int (1 * 2 ^ ((k : Int) - 1).toNat))) = false by rw [lm, el, eL]; exact dec_ne rfl) ?_
        have ql : isSR k (.tuple (tr.map fun t => t.2)) = ((tr.map fun t => isR t.2 0 1)).all id := by
          rw [all_snd (f := fun d => isR d 0 1)]
          show (decide _ && _) = _
          rw [lm2, decide_eq_true el, Bool.true_and]
        rw [ql] at q
        try walk_at "go"
        intro D hD
        refine lc_tup (K := K) (a := a) (xs := tr.map fun t => t.1) (fun i H' => Kept (Same H H' ∧ H' D = some (.lst (((tr.take i).map fun t => isR t.2 0 1).map V.bl)))) ⟨⟨same_new hD _, upd_same⟩⟩ (fun i H' _ h => SqT.of (h.ex.1 _ _ ha)) ?_ ?_
        · rintro i x H' hx ⟨S1, hD1⟩
          rw [List.getElem?_map] at hx
          obtain ⟨⟨tv, td⟩, ht, rfl⟩ := Option.map_eq_some_iff.mp hx
          have il := (List.getElem?_eq_some_iff.mp ht).1
          have th : Th K p H' tv td := (htr _ (List.mem_of_getElem? ht)).same S1
          have li : (((tr.take i).map fun t => isR t.2 0 1).map V.bl).length ≤ 16 := by rw [List.length_map, List.length_map, List.length_take]; omega
          have tk : (((tr.take i).map fun t => isR t.2 0 1).map V.bl) ++ [.bl (isR td 0 1)] = ((tr.take (i + 1)).map fun t => isR t.2 0 1).map V.bl := by rw [boolsS, tkS ht]
          try walk_at "go"
          cases ew : isWh td with
          | false =>
            rw [isR_no ew] at tk
            try walk_at "go"
            exact ⟨⟨but_same hD S1 But.upd, by rw [upd_same, tk]⟩⟩
          | true =>
            obtain ⟨j, rfl⟩ := isWh_inv ew
            cases th.int_inv
            replace tk : (((tr.take i).map fun t => isR t.2 0 1).map V.bl) ++ [V.bl (decide (0 ≤ j) && decide (j ≤ 1))] = ((tr.take (i + 1)).map fun t => isR t.2 0 1).map V.bl := tk
            try walk_at "go"
            refine ite2 (fun c => ?_) (fun c => ?_)
            · rw [c, Bool.true_and] at tk
              try walk_at "go"
              exact ⟨⟨but_same hD S1 But.upd, by rw [upd_same, tk]⟩⟩
            · rw [Bool.eq_false_iff.mpr c, Bool.false_and] at tk
              try walk_at "go"
              exact ⟨⟨but_same hD S1 But.upd, by rw [upd_same, tk]⟩⟩
        rintro H2 ⟨S2, hD2⟩
        rw [lm, List.take_length] at hD2
        try walk_at "go"
        exact q _ S2
      · refine ifT (show (!decide (V.int ((tr.map fun t => t.1).length : Nat) = V.int (1 * 2 ^ ((k : Int) - 1).toNat))) = true by rw [lm, eL, decide_eq_false (fun z => el (by have := V.int.inj z; omega))] <;> rfl) ?_
        have ql : isSR k (.tuple (tr.map fun t => t.2)) = false := by
          show (decide _ && _) = _
          rw [lm2, decide_eq_false el, Bool.false_and]
        rw [ql] at q
        try walk_at "go"
        exact q H (Same.refl _)
def spIST (K : PySem.W.Frag) : Sp := fun vs H Q _ => ∃ (v : V) (d : PyData) (p : Addr) (k : Nat), vs = [.int k, v] ∧ k ≤ 4 ∧ Th K p H v d ∧ ∀ H', Same H H' → Q (.bl (isSe k d)) H'
theorem k_is_settings (D : Df K mg "is_settings" s_is_settings ["k", "thing"]) (D_want_net : DnD P w K mg base 3 "want_net" ["k", "deepest"] [.int 4] spNet1) (D_is_setting_row : Dn P w K mg base 2 "is_setting_row" ["k", "thing"] (spSRT K)) : Dn P w K mg base 4 "is_settings" ["k", "thing"] (spIST K) := by
  refine D.ok fun f fd F => okG0 F sc_is_settings (fun vs H Q E h => ?_) (fun cdv A outer s H vs Q E hr h => ⟨_, (pss_cons (ps_expr (pe_cDd D_want_net (hr.less (by decide)) rfl (pa_cons (pv 0) pa_nil)))
    (pss_one (ps_ret (pe_and (pe_callB (kk (K := K) (F := rIsi) (P := CallR _ _) call_isi) (by rfl) B.isinstance_ (by decide +kernel) (pa_cons (pv 1) (pa_cons (pe_bltn (v := .ty "tuple") (u := .type "tuple") (by rfl) B.tuple_ (by decide +kernel) rfl) pa_nil))) (pe_and (pe_cmpR op_eq (pe_callB (lenK (K := K)) (by rfl) B.len_ (by decide +kernel) (pa_cons (pv 1) pa_nil)) (pv 0) (nomark _)) (pe_one (pe_callB (kk (K := K) (F := rAll) (P := CallR _ _) (cr_all rfl)) (by rfl) B.all_ (by decide +kernel) (pa_cons (pe_lc (own := [("row", 2)]) (g := gName 2) (tt := tYes) rfl sc_is_settings.nd (kk (K := K) (F := fun K => iTup K _) (P := PI _ _ _) (pi_tup (pv 1))) (blkOk_by (own := [("row", 2)]) (N := ["k", "thing", "row"]) (sc := defScope s_is_settings) (by decide +kernel)) (fun _ _ _ _ _ => (pg_name (i := 2) sc_is_settings.nd rfl (Or.inl rfl))) (fun _ _ _ _ _ => pts_nil) (fun _ _ _ _ _ => (pe_cD D_is_setting_row (hr.less (by decide)) rfl (pa_cons (pv 0) (pa_cons (pv 2) pa_nil))))) pa_nil)))))))), ?_⟩)
  · obtain ⟨v, d, p, k, rfl, _⟩ := h; rfl
  · obtain ⟨v, d, p, k, rfl, hk, hd, q⟩ := h
    have ty := hd.ty
    have kt := kit_tu (K := K) d
    try walk_at "go"
    cases e : isTu d with
    | false =>
      rw [e] at kt
      rw [isSe_no e] at q
      try walk_at "go"
      exact q H (Same.refl _)
    | true =>
      rw [e] at kt
      obtain ⟨ds, rfl⟩ := isTu_inv e
      obtain ⟨a, tr, rfl, rfl, ha, htr⟩ := hd.tup_inv
      have lm : (tr.map fun t => t.1).length = tr.length := List.length_map _
      have lm2 : (tr.map fun t => t.2).length = tr.length := List.length_map _
      try walk_at "go"
      by_cases el : tr.length = k
      · refine ifT (by rw [lm, el]; exact decide_eq_true rfl) ?_
        have ql : isSe k (.tuple (tr.map fun t => t.2)) = ((tr.map fun t => isSR k t.2)).all id := by
          rw [all_snd (f := isSR k)]
          show (decide _ && _) = _
          rw [lm2, decide_eq_true el, Bool.true_and]
        rw [ql] at q
        try walk_at "go"
        intro D hD
        refine lc_tup (K := K) (a := a) (xs := tr.map fun t => t.1) (fun i H' => Kept (Same H H' ∧ H' D = some (.lst (((tr.take i).map fun t => isSR k t.2).map V.bl)))) ⟨⟨same_new hD _, upd_same⟩⟩ (fun i H' _ h => SqT.of (h.ex.1 _ _ ha)) ?_ ?_
        · rintro i x H' hx ⟨S1, hD1⟩
          rw [List.getElem?_map] at hx
          obtain ⟨⟨tv, td⟩, ht, rfl⟩ := Option.map_eq_some_iff.mp hx
          have il := (List.getElem?_eq_some_iff.mp ht).1
          have th : Th K p H' tv td := (htr _ (List.mem_of_getElem? ht)).same S1
          have li : (((tr.take i).map fun t => isSR k t.2).map V.bl).length ≤ 16 := by rw [List.length_map, List.length_map, List.length_take]; omega
          have tk : (((tr.take i).map fun t => isSR k t.2).map V.bl) ++ [.bl (isSR k td)] = ((tr.take (i + 1)).map fun t => isSR k t.2).map V.bl := by rw [boolsS, tkS ht]
          have k1 : 1 ≤ k := by omega
          try walk_at "go"
          intro H3 S3
          have hD3 := S3 _ _ hD1
          try walk_at "go"
          exact ⟨⟨but_same hD (S1.trans S3) But.upd, by rw [upd_same, tk]⟩⟩
        rintro H2 ⟨S2, hD2⟩
        rw [lm, List.take_length] at hD2
        try walk_at "go"
        exact q _ S2
      · refine ifF (by rw [lm, decide_eq_false (fun z => el (by have := V.int.inj z; omega))] <;> rfl) ?_
        have ql : isSe k (.tuple (tr.map fun t => t.2)) = false := by
          show (decide _ && _) = _
          rw [lm2, decide_eq_false el, Bool.false_and]
        rw [ql] at q
        try walk_at "go"
        exact q H (Same.refl _)
def spWST (K : PySem.W.Frag) (C : Addr) : Sp := fun vs H Q E => ∃ (v : V) (d : PyData) (p : Addr) (k : Nat), vs = [.int k, v] ∧ k ≤ 4 ∧ Th K p H v d ∧ (isSe k d = true → ∀ H', Same H H' → Q .non H') ∧ (isSe k d = false → ∀ H', Same H H' → E (.ref C) none H')
theorem k_want_settings (D : Df K mg "want_settings" s_want_settings ["k", "thing"]) (D_is_settings : Dn P w K mg base 4 "is_settings" ["k", "thing"] (spIST K)) : Dx P w K mg base 5 "want_settings" ["k", "thing"] (spWST K (cAt mg "NoSettings")) := by
  refine D.okX fun f fd F => okGX F sc_want_settings (fun vs H Q E h => ?_) (fun cdv A outer s H vs Q E hr h => ⟨_, (pss_one (ps_if (pt_not (pt_val (pe_cD D_is_settings (hr.less (by decide)) rfl (pa_cons (pv 0) (pa_cons (pv 1) pa_nil)))))
     (pss_one (ps_raise rfl (takes_of rfl rfl rfl rfl) (pmk_own PySem.F.excBase_ValueError B.NoSettings_.ex B.NoSettings_.mg_ B.NoSettings_.kp (raises_own B.NoSettings_.bs B.NoSettings_.tp) rfl)))
     pss_nil)), ?_⟩)
  · obtain ⟨v, d, p, k, rfl, _⟩ := h; rfl
  · obtain ⟨v, d, p, k, rfl, hk, hd, q1, q2⟩ := h
    try walk_at "go"
    intro H1 S1
    cases e : isSe k d with
    | true =>
      try walk_at "go"
      refine ifF rfl ?_
      try walk_at "go"
      exact q1 e _ S1
    | false =>
      try walk_at "go"
      refine ifT rfl ?_
      exact q2 e _ S1
omit B in
theorem none_back {H H' : Hp} {a : Addr} (S : Same H H') (h : H' a = none) : H a = none := by
  cases e : H a with
  | none => rfl
  | some o =>
    rw [S _ _ e] at h
    cases h
omit B in
theorem flat_rep {k : Nat} : (List.replicate (2 ^ (k - 1)) [V.int 0]).flatten = (row k (fun _ _ => 0) 0).map V.int := by
  unfold row
  rw [List.map_map]
  have : ∀ n, (List.replicate n [V.int 0]).flatten = (List.range n).map (V.int ∘ (fun _ => (0 : Int))) := by
    intro n
    induction n with
    | zero => rfl
    | succ n ih => rw [List.replicate_succ', List.flatten_append, ih, List.range_succ, List.map_append] <;> rfl
  exact this _
omit B in
theorem inj_snoc {rs : List Addr} {R : Addr} (inj : ∀ (i j : Nat) (a : Addr), rs[i]? = some a → rs[j]? = some a → i = j) (n : ∀ a ∈ rs, a ≠ R) : ∀ (i j : Nat) (a : Addr), (rs ++ [R])[i]? = some a → (rs ++ [R])[j]? = some a → i = j := by
  have key : ∀ (i : Nat) (a : Addr), (rs ++ [R])[i]? = some a → (i < rs.length ∧ rs[i]? = some a) ∨ (i = rs.length ∧ a = R) := by
    intro i a h
    by_cases c : i < rs.length
    · rw [List.getElem?_append_left c] at h
      exact .inl ⟨c, h⟩
    · rw [List.getElem?_append_right (by omega)] at h
      have := (List.getElem?_eq_some_iff.mp h).1
      have h5 : [R].length = 1 := rfl
      have e : i = rs.length := by omega
      subst e
      rw [Nat.sub_self] at h
      exact .inr ⟨rfl, (Option.some.inj h).symm⟩
  intro i j a h1 h2
  rcases key i a h1 with ⟨_, c⟩ | ⟨c, c'⟩ <;> rcases key j a h2 with ⟨_, d⟩ | ⟨d, d'⟩
  · exact inj i j a c d
  · exact absurd d' (n a (List.mem_of_getElem? c))
  · exact absurd c' (n a (List.mem_of_getElem? d))
  · omega
def spPlain : Sp := fun vs H Q _ => ∃ k : Nat, vs = [.int k] ∧ k ≤ 4 ∧ ∀ D rs H', Same H H' → H D = none → H' D = some (.lst (rs.map V.ref)) → (∀ a ∈ rs, H a = none) → RowsAt H' rs k (fun _ _ => 0) → Q (.ref D) H'
theorem k_plain_rows (D : Df K mg "plain_rows" s_plain_rows ["k"]) : Dn P w K mg base 1 "plain_rows" ["k"] spPlain := by
  refine D.ok fun f fd F => okG0 F sc_plain_rows (fun vs H Q E h => ?_) (fun cdv A outer s H vs Q E hr h => ⟨_, (pss_one (ps_ret (pe_lc (own := [("stage", 1)]) (g := gName 1) (tt := tYes) rfl sc_plain_rows.nd (pi_range1 (by rfl) B.range_ (pa_cons (pv 0) pa_nil)) (blkOk_by (own := [("stage", 1)]) (N := ["k", "stage"]) (sc := defScope s_plain_rows) (by decide +kernel)) (fun _ _ _ _ _ => (pg_name (i := 1) sc_plain_rows.nd rfl (Or.inl rfl))) (fun _ _ _ _ _ => pts_nil) (fun _ _ _ _ _ => (pe_op op_rep (pe_lst (pa_cons pe_int pa_nil)) (pe_op op_shlW pe_int (pe_op op_sub (pv 0) pe_int))))))), ?_⟩)
  · obtain ⟨k, rfl, _⟩ := h; rfl
  · obtain ⟨k, rfl, hk, q⟩ := h
    try walk_at "go"
    intro D hD
    have e5 : ((k : Nat) : Int).toNat = k := by omega
    rw [e5]
    refine lc_range (lo := 0) (n := k) (fun i H' => Kept (∃ rs : List Addr, Same H H' ∧ H' D = some (.lst (rs.map V.ref)) ∧ rs.length = i ∧ (∀ (i j : Nat) (a : Addr), rs[i]? = some a → rs[j]? = some a → i = j) ∧ ∀ a ∈ rs, H a = none ∧ H' a = some (.lst ((row k (fun _ _ => 0) 0).map V.int)))) ⟨[], same_new hD _, upd_same, rfl, fun i j a h => by simp at h, fun a h => absurd h List.not_mem_nil⟩ ?_ ?_
    · rintro i H2 hi ⟨rs, S2, hD2, hl, inj, hrs⟩
      have e1 : (k : Int) - 1 = ((k - 1 : Nat) : Int) := by omega
      have hsh : CShl 1 ((k : Int) - 1) := by rw [e1]; exact shl_ok (by omega)
      have eL : (1 : Int) * 2 ^ (((k : Nat) : Int) - 1).toNat = ((2 ^ (k - 1) : Nat) : Int) := by rw [Int.one_mul, e1, Int.toNat_natCast]; push_cast; rfl
      have e8 : 2 ^ (k - 1) ≤ 8 := (Nat.pow_le_pow_right (by decide) (by omega) : 2 ^ (k - 1) ≤ 2 ^ 3)
      have ul : (rs.map V.ref).length ≤ 16 := by rw [List.length_map]; omega
      try walk_at "go"
      intro P hP
      generalize eH3 : upd _ P _ = H3
      have SH3 := newS eH3 hP
      have oP := newO eH3
      try walk_at "go"
      rw [eL, Int.toNat_natCast]
      have eR : (List.replicate (2 ^ (k - 1)) [V.int 0]).flatten = (row k (fun _ _ => 0) 0).map V.int := flat_rep
      rw [eR]
      intro R hR
      generalize eH4 : upd _ R _ = H4
      have SH4 := newS eH4 hR
      have oR := newO eH4
      have hD4 := SH4 _ _ (SH3 _ _ hD2)
      have hRn : H R = none := none_back S2 (none_back SH3 hR)
      have nRD : R ≠ D := fun z => by subst z; rw [SH3 _ _ hD2] at hR; cases hR
      have nin : ∀ a ∈ rs, a ≠ R := fun a ha z => by have e9 := SH3 _ _ (hrs a ha).2; rw [z, hR] at e9; cases e9
      have nDr : ∀ a ∈ rs, a ≠ D := fun a ha z => by have e9 := (hrs a ha).1; have e8 := (hrs a ha).2; rw [z, hD2] at e8; exact ints_refs row_ne (Option.some.inj e8).symm
      try walk_at "go"
      refine ⟨⟨rs ++ [R], but_same hD (S2.trans (SH3.trans SH4)) But.upd, by rw [upd_same, List.map_append] <;> rfl, by rw [List.length_append, hl] <;> rfl, inj_snoc inj nin, fun a ha => ?_⟩⟩
      rcases List.mem_append.mp ha with c | c
      · exact ⟨(hrs a c).1, by rw [upd_ne (nDr a c)]; exact SH4 _ _ (SH3 _ _ (hrs a c).2)⟩
      · rw [List.mem_singleton.mp c]
        exact ⟨hRn, by rw [upd_ne nRD]; exact oR⟩
    · rintro H2 ⟨rs, S2, hD2, hl, inj, hrs⟩
      refine q D rs _ S2 hD hD2 (fun a ha => (hrs a ha).1) ⟨hl, inj, fun j a h => (hrs a (List.mem_of_getElem? h)).2⟩
def spAsSe (K : PySem.W.Frag) : Sp := fun vs H Q _ => ∃ (D : Addr) (rs : List Addr) (k : Nat) (c : Tbl), vs = [.ref D] ∧ k ≤ 4 ∧ H D = some (.lst (rs.map V.ref)) ∧ RowsAt H rs k c ∧ ∀ T H', Same H H' → SeAt H' T k c → Q (.ref T) H'
theorem k_as_settings (D : Df K mg "as_settings" s_as_settings ["rows"]) : Dn P w K mg base 1 "as_settings" ["rows"] (spAsSe K) := by
  refine D.ok fun f fd F => okG0 F sc_as_settings (fun vs H Q E h => ?_) (fun cdv A outer s H vs Q E hr h => ⟨_, (pss_one (ps_ret (pe_callTy (tupOfK (K := K)) (by rfl) B.tuple_ (by decide +kernel) (pa_cons (pe_lc (own := [("row", 1)]) (g := gName 1) (tt := tYes) rfl sc_as_settings.nd (kk (K := K) (F := fun K => iList K _) (P := PI _ _ _) (pi_list (pv 0))) (blkOk_by (own := [("row", 1)]) (N := ["rows", "row"]) (sc := defScope s_as_settings) (by decide +kernel)) (fun _ _ _ _ _ => (pg_name (i := 1) sc_as_settings.nd rfl (Or.inl rfl))) (fun _ _ _ _ _ => pts_nil) (fun _ _ _ _ _ => (pe_callTy (tupOfK (K := K)) (by rfl) B.tuple_ (by decide +kernel) (pa_cons (pv 1) pa_nil)))) pa_nil)))), ?_⟩)
  · obtain ⟨D, rs, k, c, rfl, _⟩ := h; rfl
  · obtain ⟨D, rs, k, c, rfl, hk, hD, hR, q⟩ := h
    have hrl := hR.len
    try walk_at "go"
    intro E hE
    refine lc_list (K := K) (a := D) (xs := rs.map V.ref) (fun i H' => Kept (∃ us : List Addr, Same H H' ∧ H' E = some (.lst (us.map V.ref)) ∧ us.length = i ∧ ∀ (j : Nat) (a : Addr), us[j]? = some a → H' a = some (.tup ((row k c j).map V.int)))) ⟨[], same_new hE _, upd_same, rfl, fun j a h => by simp at h⟩ (fun i H' _ h => by obtain ⟨us, S, _⟩ := h.ex; exact SqL.of (S _ _ hD)) ?_ ?_
    · rintro i x H2 hx ⟨us, S2, hE2, hul, hus⟩
      rw [List.getElem?_map] at hx
      obtain ⟨r, hr, rfl⟩ := Option.map_eq_some_iff.mp hx
      have hi : i < 4 := by have := (List.getElem?_eq_some_iff.mp hr).1; omega
      have hr2 := S2 _ _ (hR.at_ i r hr)
      have ul : (us.map V.ref).length ≤ 16 := by rw [List.length_map]; omega
      try walk_at "go"
      intro U hU
      generalize eH3 : upd _ U _ = H3
      have SH3 := newS eH3 hU
      have oU := newO eH3
      have hE3 := SH3 _ _ hE2
      try walk_at "go"
      refine ⟨⟨us ++ [U], but_same hE (S2.trans SH3) But.upd, by rw [upd_same, List.map_append] <;> rfl, by rw [List.length_append, hul] <;> rfl, fun j a ha => ?_⟩⟩
      have tk : ∀ r xs, H3 r = some (.tup xs) → upd H3 E (.lst (us.map V.ref ++ [.ref U])) r = some (.tup xs) := fun r xs e => by rw [upd_ne (ne_of e hE3 (by intro z; cases z))]; exact e
      by_cases cc : j < us.length
      · rw [List.getElem?_append_left cc] at ha
        exact tk _ _ (SH3 _ _ (hus j a ha))
      · rw [List.getElem?_append_right (by omega)] at ha
        have hj : j = i := by
          have := (List.getElem?_eq_some_iff.mp ha).1
          have h5 : [U].length = 1 := rfl
          omega
        subst hj
        rw [hul, Nat.sub_self] at ha
        cases (Option.some.inj ha)
        exact tk _ _ oU
    · rintro H2 ⟨us, S2, hE2, hul, hus⟩
      rw [List.length_map, hrl] at hul
      try walk_at "go"
      intro U hU
      generalize eH3 : upd _ U _ = H3
      have SH3 := newS eH3 hU
      have oU := newO eH3
      exact q U _ (S2.trans SH3) ⟨us, oU, hul, fun j a h => SH3 _ _ (hus j a h)⟩
def spLedF (K : PySem.W.Frag) : Sp := fun vs H Q _ => ∃ (k : Nat) (T : Addr) (s : Tbl) (h : Nat), vs = [.int k, .ref T, .int h] ∧ k ≤ 4 ∧ SeAt H T k s ∧ Bt s ∧ h < 2 ^ k ∧ Q (.int (la k s h k : Nat)) H
theorem k_led_from (D : Df K mg "led_from" s_led_from ["k", "settings", "hand"]) (D_number_without : Dn P w K mg base 1 "number_without" ["k", "line", "stage"] spNwo) : Dn P w K mg base 2 "led_from" ["k", "settings", "hand"] (spLedF K) := by
  refine D.ok fun f fd F => okG0 F sc_led_from (fun vs H Q E h => ?_) (fun cdv A outer s H vs Q E hr h => ⟨_, (pss_cons (ps_set (i := 3) sc_led_from.nd rfl (Or.inl rfl) (pv 2))
    (pss_cons (ps_for PassesOwn.never rfl (pi_range2 (by rfl) B.range_ (pa_cons pe_int (pa_cons (pe_op op_add (pv 0) pe_int) pa_nil))) (pg_name (i := 4) sc_led_from.nd rfl (Or.inl rfl))
      (pss_one (ps_set (i := 3) sc_led_from.nd rfl (Or.inl rfl) (pe_op op_xor (pv 3) (pe_op op_shlW (pe_ix (kk (K := K) (F := rIxT) (P := IxR _) ix_tup) (pe_ix (kk (K := K) (F := rIxT) (P := IxR _) ix_tup) (pv 1) (pe_op op_sub (pv 4) pe_int) (fun _ _ => rfl)) (pe_cD D_number_without (hr.less (by decide)) rfl (pa_cons (pv 0) (pa_cons (pv 3) (pa_cons (pv 4) pa_nil)))) (fun _ _ => rfl)) (pe_op op_sub (pv 0) (pv 4)))))))
    (pss_one (ps_ret (pv 3))))), ?_⟩)
  · obtain ⟨k, T, s, x, rfl, _⟩ := h; rfl
  · obtain ⟨k, T, s, x, rfl, hk, hS, hb, hx, q⟩ := h
    try walk_at "go"
    have e5 : (((k : Nat) : Int) + 1 - 1).toNat = k := by omega
    rw [e5]
    refine for_range (lo := 1) (n := k) (fun j σ H' => ∃ v4, σ = [some (.int (k : Nat)), some (.ref T), some (.int (x : Nat)), some (.int (la k s x j : Nat)), v4] ∧ H' = H) ⟨_, rfl, rfl⟩ ?_ ?_
    · rintro j σ H2 hj ⟨v4, rfl, rfl⟩
      have ej : (1 : Int) + (j : Int) = ((j + 1 : Nat) : Int) := by omega
      rw [ej]
      have li := la_in (by omega : k < 5) hb hx j (by omega)
      have ni := nwo_in k (by omega) _ li j hj
      have en : nwo k (la k s x j) (j + 1) = ((nwo k (la k s x j) (j + 1)).toNat : Nat) := by omega
      have nl : (nwo k (la k s x j) (j + 1)).toNat < 2 ^ (k - 1) := by
        have e : ((2 ^ (k - 1) : Nat) : Int) = 2 ^ (k - 1) := by push_cast; rfl
        omega
      obtain ⟨as, r, g1, g2, g3, g4⟩ := hS.get hj nl
      rw [← en] at g4
      have g2' : atI (as.map V.ref) (((j + 1 : Nat) : Int) - 1) = some (.ref r) := by rw [show ((j + 1 : Nat) : Int) - 1 = (j : Int) by omega]; exact g2
      have hbs := bit_shl hk hj (hb j (nwo k (la k s x j) (j + 1)).toNat)
      have sb := stp_bit (by omega : k < 5) li hj (hb j (nwo k (la k s x j) (j + 1)).toNat)
      try walk_at "go"
      refine ⟨?_, rfl⟩
      rw [show ((la k s x (j + 1) : Nat) : Int) = stp k (la k s x j : Nat) (j + 1) (s j (nwo k (la k s x j) (j + 1)).toNat) from Int.toNat_of_nonneg sb.1] <;> rfl
    · rintro σ H2 ⟨v4, rfl, eH⟩
      cases eH
      try walk_at "go"
      exact q
def spStr (K : PySem.W.Frag) : Sp := fun vs H Q _ => ∃ (k : Nat), vs = [.int k] ∧ k ≤ 4 ∧ ∀ T H', Same H H' → SeAt H' T k (fun _ _ => 0) → Q (.ref T) H'
theorem k_straight (D : Df K mg "straight" s_straight ["k"]) (D_want_net : DnD P w K mg base 3 "want_net" ["k", "deepest"] [.int 4] spNet1) (D_plain_rows : Dn P w K mg base 1 "plain_rows" ["k"] spPlain) (D_as_settings : Dn P w K mg base 1 "as_settings" ["rows"] (spAsSe K)) : Dn P w K mg base 4 "straight" ["k"] (spStr K) := by
  refine D.ok fun f fd F => okG0 F sc_straight (fun vs H Q E h => ?_) (fun cdv A outer s H vs Q E hr h => ⟨_, (pss_cons (ps_expr (pe_cDd D_want_net (hr.less (by decide)) rfl (pa_cons (pv 0) pa_nil)))
    (pss_one (ps_ret (pe_cD D_as_settings (hr.less (by decide)) rfl (pa_cons (pe_cD D_plain_rows (hr.less (by decide)) rfl (pa_cons (pv 0) pa_nil)) pa_nil))))), ?_⟩)
  · obtain ⟨k, rfl, _⟩ := h; rfl
  · obtain ⟨k, rfl, hk, q⟩ := h
    try walk_at "go"
    intro D rs H1 S1 nD oD fr hR
    try walk_at "go"
    intro T H2 S2 hT
    exact q T H2 (S1.trans S2) hT
def wvD : PyData → Int
  | .int i => i
  | _ => 0
omit B in
theorem isR_bit {d : PyData} (h : isR d 0 1 = true) : ∃ i : Int, d = .int i ∧ (i = 0 ∨ i = 1) := by
  obtain ⟨i, e, h1, h2⟩ := isR_inv h
  exact ⟨i, e, by omega⟩
omit B in
theorem row_of {k : Nat} {p : Addr} {H : Hp} {v : V} {d : PyData} (hd : Th K p H v d) (h : isSR k d = true) : ∃ (a : Addr) (xs : List Int), v = .ref a ∧ H a = some (.tup (xs.map V.int)) ∧ xs.length = 2 ^ (k - 1) ∧ (∀ x ∈ xs, x = 0 ∨ x = 1) ∧ d = .tuple (xs.map PyData.int) := by
  cases e : isTu d with
  | false => rw [isSR_no e] at h; cases h
  | true =>
    obtain ⟨ds, rfl⟩ := isTu_inv e
    obtain ⟨a, tr, rfl, rfl, ha, htr⟩ := hd.tup_inv
    have h : (decide ((tr.map fun t => t.2).length = 2 ^ (k - 1)) && (tr.map fun t => t.2).all fun d => isR d 0 1) = true := h
    rw [Bool.and_eq_true, decide_eq_true_iff, List.length_map, List.all_eq_true] at h
    obtain ⟨h1, h2⟩ := h
    have key : ∀ t ∈ tr, ∃ i : Int, t.1 = .int i ∧ t.2 = .int i ∧ (i = 0 ∨ i = 1) := fun t ht => by
      obtain ⟨i, e2, hb⟩ := isR_bit (h2 t.2 (List.mem_map_of_mem ht))
      have := htr t ht
      rw [e2] at this
      exact ⟨i, this.int_inv, e2, hb⟩
    refine ⟨a, tr.map fun t => wvD t.2, rfl, ?_, by rw [List.length_map, h1], fun x hx => ?_, ?_⟩
    · rw [ha, List.map_map]
      congr 2
      refine List.map_congr_left fun t ht => ?_
      obtain ⟨i, e1, e2, _⟩ := key t ht
      show t.1 = V.int (wvD t.2)
      rw [e1, e2] <;> rfl
    · obtain ⟨t, ht, rfl⟩ := List.mem_map.mp hx
      obtain ⟨i, e1, e2, hb⟩ := key t ht
      rw [e2]; exact hb
    · congr 1
      rw [List.map_map]
      refine List.map_congr_left fun t ht => ?_
      obtain ⟨i, e1, e2, _⟩ := key t ht
      show t.2 = PyData.int (wvD t.2)
      rw [e2] <;> rfl
def atD (d : PyData) (n : Nat) : Int := match d with
  | .tuple ds => wvD (ds.getD n .none)
  | _ => 0
def tblD (tr : List (V × PyData)) : Nat → Nat → Int := fun j n => atD ((tr.map fun t => t.2).getD j .none) n
omit B in
theorem se_of {k : Nat} {p : Addr} {H : Hp} {v : V} {d : PyData} (hd : Th K p H v d) (h : isSe k d = true) : ∃ (T : Addr) (s : Nat → Nat → Int), v = .ref T ∧ SeAt H T k s ∧ Bt s := by
  cases e : isTu d with
  | false => rw [isSe_no e] at h; cases h
  | true =>
    obtain ⟨ds, rfl⟩ := isTu_inv e
    obtain ⟨a, tr, rfl, rfl, ha, htr⟩ := hd.tup_inv
    have h : (decide ((tr.map fun t => t.2).length = k) && (tr.map fun t => t.2).all (isSR k)) = true := h
    rw [Bool.and_eq_true, decide_eq_true_iff, List.length_map, List.all_eq_true] at h
    obtain ⟨h1, h2⟩ := h
    have key : ∀ t ∈ tr, ∃ (b : Addr) (xs : List Int), t.1 = .ref b ∧ H b = some (.tup (xs.map V.int)) ∧ xs.length = 2 ^ (k - 1) ∧ (∀ x ∈ xs, x = 0 ∨ x = 1) ∧ t.2 = .tuple (xs.map PyData.int) := fun t ht => row_of (htr t ht) (h2 t.2 (List.mem_map_of_mem ht))
    have es : ∀ (j : Nat) (t : V × PyData) (xs : List Int), tr[j]? = some t → t.2 = .tuple (xs.map PyData.int) → ∀ n, tblD tr j n = xs.getD n 0 := fun j t xs hj e n => by
      unfold tblD
      rw [List.getD_eq_getElem?_getD, List.getElem?_map, hj]
      show atD t.2 n = _
      rw [e]
      show wvD ((xs.map PyData.int).getD n .none) = _
      rw [List.getD_eq_getElem?_getD, List.getElem?_map, List.getD_eq_getElem?_getD]
      cases xs[n]? <;> rfl
    refine ⟨a, tblD tr, rfl, ⟨tr.map fun t => match t.1 with | .ref b => b | _ => 0, ?_, by rw [List.length_map, h1], fun j b hb => ?_⟩, fun j n => ?_⟩
    · rw [ha, List.map_map]
      congr 2
      refine List.map_congr_left fun t ht => ?_
      obtain ⟨b, xs, e1, _⟩ := key t ht
      show t.1 = V.ref (match t.1 with | .ref b => b | _ => 0)
      rw [e1]
    · rw [List.getElem?_map] at hb
      obtain ⟨t, ht, rfl⟩ := Option.map_eq_some_iff.mp hb
      obtain ⟨b, xs, e1, e2, e3, e4, e5⟩ := key t (List.mem_of_getElem? ht)
      rw [e1]
      show H b = _
      rw [e2]
      congr 3
      refine List.ext_getElem? fun n => ?_
      by_cases h3 : n < 2 ^ (k - 1)
      · rw [row_at h3, es j t xs ht e5, List.getD_eq_getElem?_getD, List.getElem?_eq_getElem (by omega)] <;> rfl
      · rw [List.getElem?_eq_none (by omega), List.getElem?_eq_none (by rw [row_len]; omega)]
    · cases ht : tr[j]? with
      | none => exact .inl (by unfold tblD; rw [List.getD_eq_getElem?_getD, List.getElem?_map, ht] <;> rfl)
      | some t =>
        obtain ⟨b, xs, e1, e2, e3, e4, e5⟩ := key t (List.mem_of_getElem? ht)
        rw [es j t xs ht e5 n, List.getD_eq_getElem?_getD]
        cases hx : xs[n]? with
        | none => exact .inl rfl
        | some x => exact e4 x (List.mem_of_getElem? hx)
def spLedT (K : PySem.W.Frag) (C : Addr) : Sp := fun vs H Q E => ∃ (v : V) (d : PyData) (p : Addr) (k : Nat), vs = [.int k, v] ∧ k ≤ 4 ∧ Th K p H v d ∧ (isSe k d = true → ∀ T s, v = .ref T → SeAt H T k s → Bt s → ∀ U H', Same H H' → H' U = some (.tup (nV (sdl k fun h => la k s h k))) → Q (.ref U) H') ∧ (isSe k d = false → ∀ H', Same H H' → E (.ref C) none H')
theorem k_led (D : Df K mg "led" s_led ["k", "settings"]) (D_want_net : DnD P w K mg base 3 "want_net" ["k", "deepest"] [.int 4] spNet1) (D_want_settings : Dx P w K mg base 5 "want_settings" ["k", "thing"] (spWST K (cAt mg "NoSettings"))) (D_led_from : Dn P w K mg base 2 "led_from" ["k", "settings", "hand"] (spLedF K)) : Dx P w K mg base 6 "led" ["k", "settings"] (spLedT K (cAt mg "NoSettings")) := by
  refine D.okX fun f fd F => okGX F sc_led (fun vs H Q E h => ?_) (fun cdv A outer s H vs Q E hr h => ⟨_, (pss_cons (ps_expr (pe_cDd D_want_net (hr.less (by decide)) rfl (pa_cons (pv 0) pa_nil)))
    (pss_cons (ps_expr (pe_cW D_want_settings (hr.less (by decide)) (takes_of rfl rfl rfl rfl) rfl (pa_cons (pv 0) (pa_cons (pv 1) pa_nil))))
    (pss_one (ps_ret (pe_callTy (tupOfK (K := K)) (by rfl) B.tuple_ (by decide +kernel) (pa_cons (pe_lc (own := [("hand", 2)]) (g := gName 2) (tt := tYes) rfl sc_led.nd (pi_range1 (by rfl) B.range_ (pa_cons (pe_op op_shlW pe_int (pv 0)) pa_nil)) (blkOk_by (own := [("hand", 2)]) (N := ["k", "settings", "hand"]) (sc := defScope s_led) (by decide +kernel)) (fun _ _ _ _ _ => (pg_name (i := 2) sc_led.nd rfl (Or.inl rfl))) (fun _ _ _ _ _ => pts_nil) (fun _ _ _ _ _ => (pe_cD D_led_from (hr.less (by decide)) rfl (pa_cons (pv 0) (pa_cons (pv 1) (pa_cons (pv 2) pa_nil)))))) pa_nil)))))), ?_⟩)
  · obtain ⟨v, d, p, k, rfl, _⟩ := h; rfl
  · obtain ⟨v, d, p, k, rfl, hk, hd, q1, q2⟩ := h
    have hsh : CShl 1 (k : Int) := shl_ok (by omega)
    have eL : (1 : Int) * 2 ^ ((k : Nat) : Int).toNat = ((2 ^ k : Nat) : Int) := by rw [Int.one_mul, Int.toNat_natCast]; push_cast; rfl
    have e16 : 2 ^ k ≤ 16 := (Nat.pow_le_pow_right (by decide) hk : 2 ^ k ≤ 2 ^ 4)
    try walk_at "go"
    refine ⟨fun e H1 S1 => ?_, q2⟩
    obtain ⟨T, s, rfl, hS, hb⟩ := se_of hd e
    replace q1 := q1 e T s rfl hS hb
    try walk_at "go"
    intro D hD
    rw [eL, Int.toNat_natCast]
    refine lc_range (lo := 0) (n := 2 ^ k) (fun i H' => Kept (Same H1 H' ∧ H' D = some (.lst (nV ((List.range i).map fun h => la k s h k))))) ⟨⟨same_new hD _, upd_same⟩⟩ ?_ ?_
    · rintro i H2 hi ⟨S2, hD2⟩
      rw [Int.zero_add]
      have hS2 := hS.same (S1.trans S2)
      have ll : (nV ((List.range i).map fun h => la k s h k)).length ≤ 16 := by unfold nV; rw [List.length_map, List.length_map, List.length_range]; omega
      try walk_at "go"
      exact ⟨⟨but_same hD S2 But.upd, by rw [upd_same, nV_snoc, List.range_succ, List.map_append] <;> rfl⟩⟩
    · rintro H2 ⟨S2, hD2⟩
      try walk_at "go"
      intro U hU
      generalize eH3 : upd _ U _ = H3
      have SH3 := newS eH3 hU
      have oU := newO eH3
      exact q1 U _ (S1.trans (S2.trans SH3)) oU
/-! SPLIT -/
/-! ### the law's own (k35) -/
omit B in
theorem num_figs : ∀ k, k < 5 → ∀ l, l < 2 ^ k → num (figs k l) = (l : Nat) := by decide +kernel
omit B in
theorem fig_set : ∀ k, k < 5 → ∀ l, l < 2 ^ k → ∀ j, j < k → 0 ≤ fig k l j ∧ fig k l j ≤ 1 := by decide +kernel
omit B in
theorem but_keep {p : Addr} {H H' : Hp} {cap : Nat} (b : But p H H') (hp : PurseAt H p cap) : ∀ t xs, H t = some (.tup xs) → H' t = some (.tup xs) := fun t xs e => by
  obtain ⟨_, _, _, h1, _⟩ := hp
  exact b _ _ (ne_of e h1 (by intro z; cases z)) e
omit B in
theorem SeAt.keep {H H' : Hp} {T : Addr} {k : Nat} {s : Nat → Nat → Int} (a : SeAt H T k s) (e : ∀ t xs, H t = some (.tup xs) → H' t = some (.tup xs)) : SeAt H' T k s := by
  obtain ⟨as, h1, h2, h3⟩ := a
  exact ⟨as, e _ _ h1, h2, fun j x hx => e _ _ (h3 j x hx)⟩
omit B in
theorem But.fr {p E : Addr} {H H1 : Hp} {o : HO} (b : But p H H1) (hE : H E = none) : But p H (L2.upd H1 E o) := fun x u n h => by rw [upd_ne (ne_of_none h hE)]; exact b x u n h
/-- one row more -/
def ext (s : Nat → Nat → Int) (i : Nat) (bs : List Int) : Nat → Nat → Int := fun j n => if j = i then bs.getD n 0 else s j n
omit B in
theorem row_ext {k i : Nat} {s : Nat → Nat → Int} {bs : List Int} (h : bs.length = 2 ^ (k - 1)) : row k (ext s i bs) i = bs := by
  refine List.ext_getElem? fun n => ?_
  unfold row
  rw [List.getElem?_map]
  by_cases c : n < 2 ^ (k - 1)
  · rw [List.getElem?_range c]
    show some (ext s i bs i n) = _
    unfold ext
    rw [if_pos rfl, List.getD_eq_getElem?_getD, List.getElem?_eq_getElem (by omega)] <;> rfl
  · rw [List.getElem?_eq_none (by rw [List.length_range]; omega), List.getElem?_eq_none (by omega)] <;> rfl
omit B in
theorem row_ext_ne {k i j : Nat} {s : Nat → Nat → Int} {bs : List Int} (h : j ≠ i) : row k (ext s i bs) j = row k s j := by
  unfold row
  refine List.map_congr_left fun m _ => ?_
  unfold ext
  rw [if_neg h]
omit B in
theorem ext_bt {i : Nat} {s : Nat → Nat → Int} {bs : List Int} (h : Bt s) (hb : ∀ x ∈ bs, x = 0 ∨ x = 1) : Bt (ext s i bs) := fun j n => by
  unfold ext
  split
  · rw [List.getD_eq_getElem?_getD]
    by_cases c : n < bs.length
    · rw [List.getElem?_eq_getElem c]
      exact hb _ (List.getElem_mem c)
    · rw [List.getElem?_eq_none (by omega)]
      exact .inl rfl
  · exact h j n
def spCross (K : PySem.W.Frag) : Sp := fun vs H Q _ => ∃ (k : Nat) (T : Addr) (s : Tbl) (l j : Nat), vs = [.int k, .ref T, .int l, .int ((j + 1 : Nat) : Int)] ∧ k ≤ 4 ∧ SeAt H T k s ∧ Bt s ∧ l < 2 ^ k ∧ j < k ∧ ∀ H', Same H H' → Q (.int (stp k l (j + 1) (s j (nwo k l (j + 1)).toNat))) H'
theorem k__law_crossed_line (D : Df K mg "_law_crossed_line" s__law_crossed_line ["_law_k", "_law_settings_here", "_law_line", "_law_stage"]) (D__law_figures : Dn P w K mg base 1 "_law_figures" ["_law_k", "_law_number_here"] spFigs) (D__law_number : Dn P w K mg base 1 "_law_number" ["_law_figures_here"] (spNum K)) : Dn P w K mg base 3 "_law_crossed_line" ["_law_k", "_law_settings_here", "_law_line", "_law_stage"] (spCross K) := by
  refine D.ok fun f fd F => okG0 F sc__law_crossed_line (fun vs H Q E h => ?_) (fun cdv A outer s H vs Q E hr h => ⟨_, (pss_cons (ps_set (i := 4) sc__law_crossed_line.nd rfl (Or.inl rfl) (pe_cD D__law_figures (hr.less (by decide)) rfl (pa_cons (pv 0) (pa_cons (pv 2) pa_nil))))
    (pss_cons (ps_set (i := 5) sc__law_crossed_line.nd rfl (Or.inl rfl) (pe_cD D__law_number (hr.less (by decide)) rfl (pa_cons (pe_op op_cat (pe_slice (kk (K := K) (F := rSlL) (P := L2.SlR _) sl_list) (pv 4) po_none (po_some (pe_op op_sub (pv 3) pe_int))) (pe_slice (kk (K := K) (F := rSlL) (P := L2.SlR _) sl_list) (pv 4) (po_some (pv 3)) po_none)) pa_nil)))
    (pss_cons (ps_if (pt_cmpR op_eq (pe_ix (kk (K := K) (F := rIxT) (P := IxR _) ix_tup) (pe_ix (kk (K := K) (F := rIxT) (P := IxR _) ix_tup) (pv 1) (pe_op op_sub (pv 3) pe_int) (fun _ _ => rfl)) (pv 5) (fun _ _ => rfl)) pe_int (nomark _))
      (pss_one (ps_asg (pe_op op_sub pe_int (pe_ix (kk (K := K) (F := rIxL) (P := IxR _) ix_list) (pv 4) (pe_op op_sub (pv 3) pe_int) (fun _ _ => rfl))) (pg_sub (pv 4) (pe_op op_sub (pv 3) pe_int) set_list)))
      pss_nil)
    (pss_one (ps_ret (pe_cD D__law_number (hr.less (by decide)) rfl (pa_cons (pv 4) pa_nil))))))), ?_⟩)
  · obtain ⟨k, T, s, l, j, rfl, _⟩ := h; rfl
  · obtain ⟨k, T, s, l, j, rfl, hk, hS, hb, hl, hj, q⟩ := h
    have fb := figs_bits (k := k) (n := l) hk hl
    have fl := figs_len (k := k) (n := l)
    have hfl : ((figs k l).map V.int).length = k := by rw [List.length_map, fl]
    try walk_at "go"
    intro D H1 S1 hDn hD
    have es : ((j + 1 : Nat) : Int) - 1 = ((j : Nat) : Int) := by omega
    try walk_at "go"
    intro P1 hP1
    generalize eH2 : upd _ P1 _ = H2
    have SH2 := newS eH2 hP1
    have oP1 := newO eH2
    rw [es, cut_to, ← List.map_take] at oP1
    try walk_at "go"
    intro P2 hP2
    generalize eH3 : upd _ P2 _ = H3
    have SH3 := newS eH3 hP2
    have oP2 := newO eH3
    rw [cut_from, ← List.map_drop] at oP2
    try walk_at "go"
    intro P3 hP3
    generalize eH4 : upd _ P3 _ = H4
    have SH4 := newS eH4 hP3
    have oP3 := newO eH4
    rw [← List.map_append] at oP3
    have fb2 : Bits ((figs k l).take j ++ (figs k l).drop (j + 1)) := Bits.cat hk fb.1 fb.1 _ _ (by omega) (by omega)
    have en : num ((figs k l).take j ++ (figs k l).drop (j + 1)) = nwo k l (j + 1) := by
      rcases nwo_is k (by omega) l hl (j + 1) (by omega) with z | z
      · cases z
      · exact z.symm
    generalize (figs k l).take j ++ (figs k l).drop (j + 1) = fs at oP3 fb2 en
    have ni := nwo_in k (by omega) l hl j hj
    have nl : (nwo k l (j + 1)).toNat < 2 ^ (k - 1) := by
      have e : ((2 ^ (k - 1) : Nat) : Int) = 2 ^ (k - 1) := by push_cast; rfl
      omega
    obtain ⟨as, r, g1, g2, g3, g4⟩ := hS.get hj nl
    rw [show ((nwo k l (j + 1)).toNat : Int) = num fs by rw [en]; omega] at g4
    rw [← es] at g2
    have aF : atI ((figs k l).map V.int) (((j + 1 : Nat) : Int) - 1) = some (.int (fig k l j)) := by rw [es]; exact atI_nat (by rw [List.getElem?_map]; unfold figs; rw [List.getElem?_map, List.getElem?_range hj] <;> rfl)
    have hix : ixN ((figs k l).map V.int).length (((j + 1 : Nat) : Int) - 1) = some j := by rw [es]; exact ixn (by omega)
    have S4 : Same H H4 := S1.trans (SH2.trans (SH3.trans SH4))
    have g14 := S4 _ _ g1
    have g34 := S4 _ _ g3
    have hb2 := hb j (nwo k l (j + 1)).toNat
    have q4 := q
    generalize s j (nwo k l (j + 1)).toNat = cr at g4 hb2 q4
    try walk_at "go"
    refine ite2 (fun c => ?_) (fun c => ?_)
    · have c1 : cr = 1 := V.int.inj (of_decide_eq_true c)
      subst c1
      try walk_at "go"
      generalize eH5 : upd H4 D (HO.lst (((figs k l).map V.int).set j (.int (1 - fig k l j)))) = H5
      have BH5 : But D H4 H5 := eH5 ▸ But.upd
      have oH5 : H5 D = some (HO.lst (((figs k l).map V.int).set j (.int (1 - fig k l j)))) := eH5 ▸ upd_same
      rw [← List.map_set] at oH5
      have hf := fig_set k (by omega) l hl j hj
      have gb : Bits ((figs k l).set j (1 - fig k l j)) := by
        refine ⟨fun x hx => ?_, by rw [List.length_set]; exact fb.2⟩
        rcases List.mem_or_eq_of_mem_set hx with z | z
        · exact fb.1 _ z
        · omega
      try walk_at "go"
      rw [turn_line k (by omega) l hl j hj]
      exact q4 _ (but_same hDn S4 BH5)
    · have c0 : cr = 0 := by
        rcases hb2 with z | z
        · exact z
        · exact absurd (decide_eq_true (congrArg V.int z)) c
      subst c0
      try walk_at "go"
      rw [num_figs k (by omega) l hl]
      have q5 := q4 _ S4
      rw [stp_zero k (by omega) l hl j hj] at q5
      exact q5
def spLedL (K : PySem.W.Frag) : Sp := fun vs H Q _ => ∃ (k : Nat) (T : Addr) (s : Tbl), vs = [.int k, .ref T] ∧ k ≤ 4 ∧ SeAt H T k s ∧ Bt s ∧ ∀ U H', Same H H' → H' U = some (.tup (nV (sdl k fun h => la k s h k))) → Q (.ref U) H'
theorem k__law_led (D : Df K mg "_law_led" s__law_led ["_law_k", "_law_settings_here"]) (D__law_crossed_line : Dn P w K mg base 3 "_law_crossed_line" ["_law_k", "_law_settings_here", "_law_line", "_law_stage"] (spCross K)) : Dn P w K mg base 4 "_law_led" ["_law_k", "_law_settings_here"] (spLedL K) := by
  refine D.ok fun f fd F => okG0 F sc__law_led (fun vs H Q E h => ?_) (fun cdv A outer s H vs Q E hr h => ⟨_, (pss_cons (ps_set (i := 2) sc__law_led.nd rfl (Or.inl rfl) (pe_lst pa_nil))
    (pss_cons (ps_for PassesOwn.never rfl (pi_range1 (by rfl) B.range_ (pa_cons (pe_op op_shlW pe_int (pv 0)) pa_nil)) (pg_name (i := 3) sc__law_led.nd rfl (Or.inl rfl))
      (pss_cons (ps_set (i := 4) sc__law_led.nd rfl (Or.inl rfl) (pv 3))
      (pss_cons (ps_for PassesOwn.never rfl (pi_range2 (by rfl) B.range_ (pa_cons pe_int (pa_cons (pe_op op_add (pv 0) pe_int) pa_nil))) (pg_name (i := 5) sc__law_led.nd rfl (Or.inl rfl))
        (pss_one (ps_set (i := 4) sc__law_led.nd rfl (Or.inl rfl) (pe_cD D__law_crossed_line (hr.less (by decide)) rfl (pa_cons (pv 0) (pa_cons (pv 1) (pa_cons (pv 4) (pa_cons (pv 5) pa_nil))))))))
      (pss_one (ps_expr (kk (K := K) (F := fun K => tBM K "list" _ _ _) (P := PE _ _) (pe_bm PySem.F.plainAttrs_list PySem.F.slot_list_append PySem.F.type_list_append mt_append (pv 2) (pa_cons (pv 4) pa_nil))))))))
    (pss_one (ps_ret (pe_callTy (tupOfK (K := K)) (by rfl) B.tuple_ (by decide +kernel) (pa_cons (pv 2) pa_nil)))))), ?_⟩)
  · obtain ⟨k, T, s, rfl, _⟩ := h; rfl
  · obtain ⟨k, T, s, rfl, hk, hS, hb, q⟩ := h
    have hsh : CShl 1 (k : Int) := shl_ok (by omega)
    have eL : (1 : Int) * 2 ^ ((k : Nat) : Int).toNat = ((2 ^ k : Nat) : Int) := by rw [Int.one_mul, Int.toNat_natCast]; push_cast; rfl
    have e16 : 2 ^ k ≤ 16 := (Nat.pow_le_pow_right (by decide) hk : 2 ^ k ≤ 2 ^ 4)
    try walk_at "go"
    intro D hD
    generalize eH1 : upd _ D _ = H1
    have SH1 := newS eH1 hD
    have oD := newO eH1
    try walk_at "go"
    rw [eL, Int.toNat_natCast]
    refine for_range (lo := 0) (n := 2 ^ k) (fun i σ H' => Kept (∃ w3 w4 w5, σ = [some (.int (k : Nat)), some (.ref T), some (.ref D), w3, w4, w5] ∧ Same H H' ∧ H' D = some (.lst (nV ((List.range i).map fun h => la k s h k))))) ⟨_, _, _, rfl, SH1, oD⟩ ?_ ?_
    · rintro i σ H2 hi ⟨w3, w4, w5, rfl, S2, hD2⟩
      rw [Int.zero_add]
      try walk_at "go"
      have e5 : (((k : Nat) : Int) + 1 - 1).toNat = k := by omega
      rw [e5]
      refine for_range (lo := 1) (n := k) (fun j σ H' => Kept (∃ w5, σ = [some (.int (k : Nat)), some (.ref T), some (.ref D), some (.int (i : Nat)), some (.int (la k s i j : Nat)), w5] ∧ Same H2 H')) ⟨_, rfl, fun _ _ h => h⟩ ?_ ?_
      · rintro j σ H3 hj ⟨w5, rfl, S3⟩
        have hS3 := (hS.same S2).same S3
        have ej : (1 : Int) + (j : Int) = ((j + 1 : Nat) : Int) := by omega
        rw [ej]
        have li := la_in (by omega : k < 5) hb hi j (by omega)
        have sb := stp_bit (by omega : k < 5) li hj (hb j (nwo k (la k s i j) (j + 1)).toNat)
        try walk_at "go"
        intro H4 S4
        refine ⟨⟨some (.int ((j + 1 : Nat) : Int)), ?_, S3.trans S4⟩⟩
        rw [show ((la k s i (j + 1) : Nat) : Int) = stp k (la k s i j : Nat) (j + 1) (s j (nwo k (la k s i j) (j + 1)).toNat) from Int.toNat_of_nonneg sb.1] <;> rfl
      · rintro σ H3 ⟨w5, rfl, S3⟩
        have hD3 := S3 _ _ hD2
        have hnl : (nV ((List.range i).map fun h => la k s h k)).length ≤ 16 := by unfold nV; rw [List.length_map, List.length_map, List.length_range]; omega
        try walk_at "go"
        exact ⟨⟨_, _, _, rfl, but_same hD (S2.trans S3) But.upd, by rw [upd_same, nV_snoc, List.range_succ, List.map_append] <;> rfl⟩⟩
    · rintro σ H2 ⟨w3, w4, w5, rfl, S2, hD2⟩
      try walk_at "go"
      intro U hU
      generalize eH3 : upd _ U _ = H3
      have SH3 := newS eH3 hU
      have oU := newO eH3
      exact q U _ (S2.trans SH3) oU
def spSettS (K : PySem.W.Frag) : Sp := fun vs H Q _ => ∃ (p : Addr) (k cap : Nat), vs = [.ref p, .int k] ∧ k ≤ 4 ∧ PurseAt H p cap ∧ cap ≤ 80000 ∧ ∀ T (s : Tbl) H', But p H H' → PurseAt H' p (cap + 64 * 64) → SeAt H' T k s → Bt s → Q (.ref T) H'
theorem k__law_settings (D : Df K mg "_law_settings" s__law_settings ["_law_purse_here", "_law_k"]) (D__law_take : Dn P w K mg base 2 "_law_take" ["_law_purse_here", "_law_many"] (spTakeP K)) : Dn P w K mg base 3 "_law_settings" ["_law_purse_here", "_law_k"] (spSettS K) := by
  refine D.ok fun f fd F => okG0 F sc__law_settings (fun vs H Q E h => ?_) (fun cdv A outer s H vs Q E hr h => ⟨_, (pss_cons (ps_set (i := 2) sc__law_settings.nd rfl (Or.inl rfl) (pe_lst pa_nil))
    (pss_cons (ps_for PassesOwn.never rfl (pi_range1 (by rfl) B.range_ (pa_cons (pv 1) pa_nil)) (pg_name (i := 3) sc__law_settings.nd rfl (Or.inl rfl))
      (pss_one (ps_expr (kk (K := K) (F := fun K => tBM K "list" _ _ _) (P := PE _ _) (pe_bm PySem.F.plainAttrs_list PySem.F.slot_list_append PySem.F.type_list_append mt_append (pv 2) (pa_cons (pe_callTy (tupOfK (K := K)) (by rfl) B.tuple_ (by decide +kernel) (pa_cons (pe_lc (own := [("_law_number_here", 4)]) (g := gName 4) (tt := tYes) rfl sc__law_settings.nd (pi_range1 (by rfl) B.range_ (pa_cons (pe_op op_shlW pe_int (pe_op op_sub (pv 1) pe_int)) pa_nil)) (blkOk_by (own := [("_law_number_here", 4)]) (N := ["_law_purse_here", "_law_k", "_law_rows", "_law_stage", "_law_number_here"]) (sc := defScope s__law_settings) (by decide +kernel)) (fun _ _ _ _ _ => (pg_name (i := 4) sc__law_settings.nd rfl (Or.inl rfl))) (fun _ _ _ _ _ => pts_nil) (fun _ _ _ _ _ => (pe_cD D__law_take (hr.less (by decide)) rfl (pa_cons (pv 0) (pa_cons pe_int pa_nil))))) pa_nil)) pa_nil))))))
    (pss_one (ps_ret (pe_callTy (tupOfK (K := K)) (by rfl) B.tuple_ (by decide +kernel) (pa_cons (pv 2) pa_nil)))))), ?_⟩)
  · obtain ⟨p, k, cap, rfl, _⟩ := h; rfl
  · obtain ⟨p, k, cap, rfl, hk, hp, hc, q⟩ := h
    try walk_at "go"
    intro D hD
    generalize eH1 : upd _ D _ = H1
    have SH1 := newS eH1 hD
    have oD := newO eH1
    have npD : p ≠ D := Ne.symm (purse_ne B hp hD)
    have hp1 := PurseAt.same B SH1 hp
    try walk_at "go"
    have e5 : ((k : Nat) : Int).toNat = k := by omega
    rw [e5]
    refine for_range (lo := 0) (n := k) (fun i σ H' => Kept (∃ w3 w4 s, ∃ rs : List Addr, σ = [some (.ref p), some (.int (k : Nat)), some (.ref D), w3, w4] ∧ But p H H' ∧ PurseAt H' p (cap + 64 * 8 * i) ∧ H' D = some (.lst (rs.map V.ref)) ∧ rs.length = i ∧ Bt s ∧ ∀ (j : Nat) (r : Addr), rs[j]? = some r → H' r = some (.tup ((row k s j).map V.int)))) ⟨_, _, fun _ _ => 0, [], rfl, same_but SH1, hp1, oD, rfl, fun _ _ => .inl rfl, fun j r h => by simp at h⟩ ?_ ?_
    · rintro i σ H2 hi ⟨w3, w4, s, rs, rfl, B2, hp2, hD2, hrl, hb, hrs⟩
      have e1 : (k : Int) - 1 = ((k - 1 : Nat) : Int) := by omega
      have hsh : CShl 1 ((k : Int) - 1) := by rw [e1]; exact shl_ok (by omega)
      have eL : (1 : Int) * 2 ^ (((k : Nat) : Int) - 1).toNat = ((2 ^ (k - 1) : Nat) : Int) := by rw [Int.one_mul, e1, Int.toNat_natCast]; push_cast; rfl
      have e8 : 2 ^ (k - 1) ≤ 8 := (Nat.pow_le_pow_right (by decide) (by omega) : 2 ^ (k - 1) ≤ 2 ^ 3)
      have ul : (rs.map V.ref).length ≤ 16 := by rw [List.length_map]; omega
      try walk_at "go"
      intro E hE
      rw [eL, Int.toNat_natCast]
      refine lc_range (lo := 0) (n := 2 ^ (k - 1)) (fun j H' => Kept (∃ bs : List Int, But p H2 H' ∧ PurseAt H' p (cap + 64 * 8 * i + 64 * j) ∧ H' E = some (.lst (bs.map V.int)) ∧ bs.length = j ∧ ∀ x ∈ bs, x = 0 ∨ x = 1)) ⟨[], same_but (same_new hE _), PurseAt.same B (same_new hE _) hp2, upd_same, rfl, fun x hx => absurd hx List.not_mem_nil⟩ ?_ ?_
      · rintro j H3 hj ⟨bs, B3, hp3, hE3, hbl, hb3⟩
        try walk_at "go"
        intro d H4 d0 d1 b4 p4
        have npE : p ≠ E := Ne.symm (purse_ne B hp2 hE)
        have hE4 := b4 _ _ (Ne.symm npE) hE3
        have bl : (bs.map V.int).length ≤ 16 := by rw [List.length_map]; omega
        try walk_at "go"
        obtain ⟨a, c, tn, h1, h2, h3⟩ := p4
        refine ⟨⟨bs ++ [d], (B3.trans b4).fr hE, ⟨a, c, tn, by rw [upd_ne npE]; exact h1, h2, by omega⟩, by rw [upd_same, List.map_append] <;> rfl, by rw [List.length_append, hbl] <;> rfl, fun x hx => ?_⟩⟩
        rcases List.mem_append.mp hx with z | z
        · exact hb3 x z
        · rw [List.mem_singleton.mp z]; omega
      · rintro H3 ⟨bs, B3, hp3, hE3, hbl, hb3⟩
        try walk_at "go"
        intro U hU
        generalize eH4 : upd _ U _ = H4
        have SH4 := newS eH4 hU
        have oU := newO eH4
        have hD4 := SH4 _ _ (B3 _ _ (Ne.symm npD) hD2)
        try walk_at "go"
        obtain ⟨a, c, tn, h1, h2, h3⟩ := hp3
        have k2 := but_keep B3 hp2
        have tk : ∀ r xs, H4 r = some (.tup xs) → upd H4 D (.lst (rs.map V.ref ++ [.ref U])) r = some (.tup xs) := fun r xs e => by rw [upd_ne (ne_of e hD4 (by intro z; cases z))]; exact e
        refine ⟨⟨_, _, ext s i bs, rs ++ [U], rfl, (B2.trans (B3.trans (same_but SH4))).fr hD, ⟨a, c, tn, by rw [upd_ne npD]; exact SH4 _ _ h1, h2, by omega⟩, by rw [upd_same, List.map_append] <;> rfl, by rw [List.length_append, hrl] <;> rfl, ext_bt hb hb3, fun j r hr => ?_⟩⟩
        by_cases cc : j < rs.length
        · rw [List.getElem?_append_left cc] at hr
          rw [row_ext_ne (by omega)]
          exact tk _ _ (SH4 _ _ (k2 _ _ (hrs j r hr)))
        · rw [List.getElem?_append_right (by omega)] at hr
          have hj : j = i := by
            have := (List.getElem?_eq_some_iff.mp hr).1
            have h5 : [U].length = 1 := rfl
            omega
          subst hj
          rw [hrl, Nat.sub_self] at hr
          cases (Option.some.inj hr)
          rw [row_ext hbl]
          exact tk _ _ oU
    · rintro σ H2 ⟨w3, w4, s, rs, rfl, B2, hp2, hD2, hrl, hb, hrs⟩
      try walk_at "go"
      intro U hU
      generalize eH3 : upd _ U _ = H3
      have SH3 := newS eH3 hU
      have oU := newO eH3
      obtain ⟨a, c, tn, h1, h2, h3⟩ := hp2
      exact q U s _ (B2.trans (same_but SH3)) ⟨a, c, tn, SH3 _ _ h1, h2, by omega⟩ ⟨rs, oU, hrl, fun j r hr => SH3 _ _ (hrs j r hr)⟩ hb
def spWhT4 (K : PySem.W.Frag) : Sp := fun vs H Q _ => ∃ (v : V) (d : PyData) (p : Addr), vs = [v] ∧ Th K p H v d ∧ Q (.bl (isWh d)) H
theorem k__law_is_number (D : Df K mg "_law_is_number" s__law_is_number ["_law_thing"]) : Dn P w K mg base 1 "_law_is_number" ["_law_thing"] (spWhT4 K) := by
  refine D.ok fun f fd F => okG0 F sc__law_is_number (fun vs H Q E h => ?_) (fun cdv A outer s H vs Q E hr h => ⟨_, (pss_one (ps_ret (pe_and (pe_callB (kk (K := K) (F := rIsi) (P := CallR _ _) call_isi) (by rfl) B.isinstance_ (by decide +kernel) (pa_cons (pv 0) (pa_cons (pe_bltn (v := .ty "int") (u := .type "int") (by rfl) B.int_ (by decide +kernel) rfl) pa_nil))) (pe_one (pe_not (pe_callB (kk (K := K) (F := rIsi) (P := CallR _ _) call_isi) (by rfl) B.isinstance_ (by decide +kernel) (pa_cons (pv 0) (pa_cons (pe_bltn (v := .ty "bool") (u := .type "bool") (by rfl) B.bool_ (by decide +kernel) rfl) pa_nil)))))))), ?_⟩)
  · obtain ⟨v, d, p, rfl, _⟩ := h; rfl
  · obtain ⟨v, d, p, rfl, hd, q⟩ := h
    have ty := hd.ty
    have k1 := kit_in (K := K) d
    have k2 := kit_bl (K := K) d
    rw [isWh_eq] at q
    generalize isIn d = x at k1 q
    generalize isBl d = y at k2 q
    cases x
    all_goals
      try walk_at "go"
      first | exact q | exact ifF rfl q | exact ifT rfl q
omit B in
theorem filS {α β : Type} {l : List α} {f : α → β} {g : α → Bool} {i : Nat} {x : α} (h : l[i]? = some x) : ((l.take (i + 1)).filter g).map f = ((l.take i).filter g).map f ++ (if g x = true then [f x] else []) := by
  rw [List.take_succ, h, List.filter_append, List.map_append]
  congr 1
  cases e : g x with
  | true => rw [if_pos rfl]; show List.map f (List.filter g [x]) = _; rw [List.filter_cons_of_pos e] <;> rfl
  | false => rw [if_neg (by decide)]; show List.map f (List.filter g [x]) = _; rw [List.filter_cons_of_neg (by rw [e]; decide)] <;> rfl
omit B in
theorem filE {tr : List (V × PyData)} {f : PyData → Bool} : ((tr.filter fun t => !f t.2).map fun t => t.1).isEmpty = (tr.map fun t => t.2).all f := by
  induction tr with
  | nil => rfl
  | cons t tr ih =>
    cases e : f t.2 with
    | true =>
      rw [List.filter_cons_of_neg (by rw [e]; decide), ih]
      show _ = (f t.2 && _)
      rw [e, Bool.true_and]
    | false =>
      rw [List.filter_cons_of_pos (by rw [e]; rfl)]
      show false = (f t.2 && _)
      rw [e, Bool.false_and]
def spGR (K : PySem.W.Frag) : Sp := fun vs H Q _ => ∃ (v : V) (d : PyData) (p : Addr) (k : Nat), vs = [.int k, v] ∧ 1 ≤ k ∧ k ≤ 4 ∧ Th K p H v d ∧ ∀ H', Same H H' → Q (.bl (isSR k d)) H'
theorem k__law_is_good_row (D : Df K mg "_law_is_good_row" s__law_is_good_row ["_law_k", "_law_thing"]) (D__law_is_number : Dn P w K mg base 1 "_law_is_number" ["_law_thing"] (spWhT4 K)) : Dn P w K mg base 2 "_law_is_good_row" ["_law_k", "_law_thing"] (spGR K) := by
  refine D.ok fun f fd F => okG0 F sc__law_is_good_row (fun vs H Q E h => ?_) (fun cdv A outer s H vs Q E hr h => ⟨_, (pss_cons (ps_if (PW.pt (pw_or (pt_not (pt_val (pe_callB (kk (K := K) (F := rIsi) (P := CallR _ _) call_isi) (by rfl) B.isinstance_ (by decide +kernel) (pa_cons (pv 1) (pa_cons (pe_bltn (v := .ty "tuple") (u := .type "tuple") (by rfl) B.tuple_ (by decide +kernel) rfl) pa_nil))))) (pw_or1 (pt_cmpR op_ne (pe_callB (lenK (K := K)) (by rfl) B.len_ (by decide +kernel) (pa_cons (pv 1) pa_nil)) (pe_op op_shlW pe_int (pe_op op_sub (pv 0) pe_int)) (nomark _)))))
      (pss_one (ps_ret pe_bl))
      pss_nil)
    (pss_one (ps_ret (pe_cmpR (kk (K := K) (F := rEqNil) (P := OpR _ _) (op_eqNil hr.units)) (pe_lc (own := [("_law_one", 2)]) (g := gName 2) rfl sc__law_is_good_row.nd (kk (K := K) (F := fun K => iTup K _) (P := PI _ _ _) (pi_tup (pv 1))) (blkOk_by (own := [("_law_one", 2)]) (N := ["_law_k", "_law_thing", "_law_one"]) (sc := defScope s__law_is_good_row) (by decide +kernel)) (fun _ _ _ _ _ => (pg_name (i := 2) sc__law_is_good_row.nd rfl (Or.inl rfl))) (fun _ _ _ _ _ => (pts_one (PW.pt (pw_or (pt_not (pt_val (pe_cD D__law_is_number (hr.less (by decide)) rfl (pa_cons (pv 2) pa_nil)))) (pw_or (pt_cmpR op_lt (pv 2) pe_int (nomark _)) (pw_or1 (pt_cmpR op_gt (pv 2) pe_int (nomark _)))))))) (fun _ _ _ _ _ => (pv 2))) (pe_lst pa_nil) (nomark _))))), ?_⟩)
  · obtain ⟨v, d, p, k, rfl, _⟩ := h; rfl
  · obtain ⟨v, d, p, k, rfl, k1, hk, hd, q⟩ := h
    have e1 : (k : Int) - 1 = ((k - 1 : Nat) : Int) := by omega
    have hsh : CShl 1 ((k : Int) - 1) := by rw [e1]; exact shl_ok (by omega)
    have eL : (1 : Int) * 2 ^ (((k : Nat) : Int) - 1).toNat = ((2 ^ (k - 1) : Nat) : Int) := by rw [Int.one_mul, e1, Int.toNat_natCast]; push_cast; rfl
    have e8 : 2 ^ (k - 1) ≤ 8 := (Nat.pow_le_pow_right (by decide) (by omega) : 2 ^ (k - 1) ≤ 2 ^ 3)
    have ty := hd.ty
    have kt := kit_tu (K := K) d
    cases e : isTu d with
    | false =>
      rw [e] at kt
      rw [isSR_no e] at q
      try walk_at "go"
      exact q H (Same.refl _)
    | true =>
      rw [e] at kt
      obtain ⟨ds, rfl⟩ := isTu_inv e
      obtain ⟨a, tr, rfl, rfl, ha, htr⟩ := hd.tup_inv
      have lm : (tr.map fun t => t.1).length = tr.length := List.length_map _
      have lm2 : (tr.map fun t => t.2).length = tr.length := List.length_map _
      try walk_at "go"
      by_cases el : tr.length = 2 ^ (k - 1)
      · refine ifF (show (!decide (V.int ((tr.map fun t => t.1).length : Nat) = V.int (1 * 2 ^ ((k : Int) - 1).toNat))) = false by rw [lm, el, eL]; exact dec_ne rfl) ?_
        have ql : isSR k (.tuple (tr.map fun t => t.2)) = ((tr.filter fun t => !isR t.2 0 1).map fun t => t.1).isEmpty := by
          rw [filE (f := fun d => isR d 0 1)]
          show (decide _ && _) = _
          rw [lm2, decide_eq_true el, Bool.true_and]
        rw [ql] at q
        try walk_at "go"
        intro D hD
        refine lc_tup (K := K) (a := a) (xs := tr.map fun t => t.1) (fun i H' => Kept (Same H H' ∧ H' D = some (.lst (((tr.take i).filter fun t => !isR t.2 0 1).map fun t => t.1)))) ⟨⟨same_new hD _, upd_same⟩⟩ (fun i H' _ h => SqT.of (h.ex.1 _ _ ha)) ?_ ?_
        · rintro i x H' hx ⟨S1, hD1⟩
          rw [List.getElem?_map] at hx
          obtain ⟨⟨tv, td⟩, ht, rfl⟩ := Option.map_eq_some_iff.mp hx
          have il := (List.getElem?_eq_some_iff.mp ht).1
          have th : Th K p H' tv td := (htr _ (List.mem_of_getElem? ht)).same S1
          have li : (((tr.take i).filter fun t => !isR t.2 0 1).map fun t => t.1).length ≤ 16 := by
            rw [List.length_map]
            have := List.length_filter_le (fun t : V × PyData => !isR t.2 0 1) (tr.take i)
            rw [List.length_take] at this
            omega
          have tk := filS (f := fun t : V × PyData => t.1) (g := fun t => !isR t.2 0 1) ht
          replace tk : ((tr.take (i + 1)).filter fun t => !isR t.2 0 1).map (fun t => t.1) = ((tr.take i).filter fun t => !isR t.2 0 1).map (fun t => t.1) ++ (if (!isR td 0 1) = true then [tv] else []) := tk
          have put : isR td 0 1 = false → Same H (L2.upd H' D (.lst ((((tr.take i).filter fun t => !isR t.2 0 1).map fun t => t.1) ++ [tv]))) ∧ (L2.upd H' D (.lst ((((tr.take i).filter fun t => !isR t.2 0 1).map fun t => t.1) ++ [tv]))) D = some (.lst (((tr.take (i + 1)).filter fun t => !isR t.2 0 1).map fun t => t.1)) := fun z => by
            rw [z, if_pos (by decide : (!false) = true)] at tk
            exact ⟨but_same hD S1 But.upd, by rw [upd_same, tk]⟩
          have non : isR td 0 1 = true → Same H H' ∧ H' D = some (.lst (((tr.take (i + 1)).filter fun t => !isR t.2 0 1).map fun t => t.1)) := fun z => by
            rw [z, if_neg (by decide : ¬ (!true) = true), List.append_nil] at tk
            exact ⟨S1, by rw [tk]; exact hD1⟩
          try walk_at "go"
          cases ew : isWh td with
          | false =>
            try walk_at "go"
            exact ⟨put (isR_no ew)⟩
          | true =>
            obtain ⟨j, rfl⟩ := isWh_inv ew
            cases th.int_inv
            try walk_at "go"
            refine ite2 (fun c => ?_) (fun c => ?_)
            · have c : j < 0 := of_decide_eq_true c
              try walk_at "go"
              refine ⟨put ?_⟩
              show (decide (0 ≤ j) && decide (j ≤ 1)) = false
              rw [decide_eq_false (by omega), Bool.false_and]
            · have c : ¬ j < 0 := fun z => c (decide_eq_true z)
              try walk_at "go"
              refine ite2 (fun c2 => ?_) (fun c2 => ?_)
              · have c2 : j > 1 := of_decide_eq_true c2
                try walk_at "go"
                refine ⟨put ?_⟩
                show (decide (0 ≤ j) && decide (j ≤ 1)) = false
                rw [decide_eq_false (show ¬ j ≤ 1 by omega), Bool.and_false]
              · have c2 : ¬ j > 1 := fun z => c2 (decide_eq_true z)
                exact ⟨non (isR_mk (by omega) (by omega))⟩
        rintro H2 ⟨S2, hD2⟩
        rw [lm, List.take_length] at hD2
        try walk_at "go"
        intro N hN
        generalize eH3 : upd _ N _ = H3
        have SH3 := newS eH3 hN
        have oN := newO eH3
        have hD3 := SH3 _ _ hD2
        try walk_at "go"
        exact q _ (S2.trans SH3)
      · refine ifT (show (!decide (V.int ((tr.map fun t => t.1).length : Nat) = V.int (1 * 2 ^ ((k : Int) - 1).toNat))) = true by rw [lm, eL, decide_eq_false (fun z => el (by have := V.int.inj z; omega))] <;> rfl) ?_
        have ql : isSR k (.tuple (tr.map fun t => t.2)) = false := by
          show (decide _ && _) = _
          rw [lm2, decide_eq_false el, Bool.false_and]
        rw [ql] at q
        try walk_at "go"
        exact q H (Same.refl _)
def spAG (K : PySem.W.Frag) : Sp := fun vs H Q _ => ∃ (v : V) (d : PyData) (p : Addr) (k : Nat), vs = [.int k, v] ∧ k ≤ 4 ∧ Th K p H v d ∧ ∀ H', Same H H' → Q (.bl (isSe k d)) H'
theorem k__law_are_good (D : Df K mg "_law_are_good" s__law_are_good ["_law_k", "_law_thing"]) (D__law_is_good_row : Dn P w K mg base 2 "_law_is_good_row" ["_law_k", "_law_thing"] (spGR K)) : Dn P w K mg base 3 "_law_are_good" ["_law_k", "_law_thing"] (spAG K) := by
  refine D.ok fun f fd F => okG0 F sc__law_are_good (fun vs H Q E h => ?_) (fun cdv A outer s H vs Q E hr h => ⟨_, (pss_cons (ps_if (PW.pt (pw_or (pt_not (pt_val (pe_callB (kk (K := K) (F := rIsi) (P := CallR _ _) call_isi) (by rfl) B.isinstance_ (by decide +kernel) (pa_cons (pv 1) (pa_cons (pe_bltn (v := .ty "tuple") (u := .type "tuple") (by rfl) B.tuple_ (by decide +kernel) rfl) pa_nil))))) (pw_or1 (pt_cmpR op_ne (pe_callB (lenK (K := K)) (by rfl) B.len_ (by decide +kernel) (pa_cons (pv 1) pa_nil)) (pv 0) (nomark _)))))
      (pss_one (ps_ret pe_bl))
      pss_nil)
    (pss_one (ps_ret (pe_cmpR (kk (K := K) (F := rEqNil) (P := OpR _ _) (op_eqNil hr.units)) (pe_lc (own := [("_law_row", 2)]) (g := gName 2) rfl sc__law_are_good.nd (kk (K := K) (F := fun K => iTup K _) (P := PI _ _ _) (pi_tup (pv 1))) (blkOk_by (own := [("_law_row", 2)]) (N := ["_law_k", "_law_thing", "_law_row"]) (sc := defScope s__law_are_good) (by decide +kernel)) (fun _ _ _ _ _ => (pg_name (i := 2) sc__law_are_good.nd rfl (Or.inl rfl))) (fun _ _ _ _ _ => (pts_one (pt_not (pt_val (pe_cD D__law_is_good_row (hr.less (by decide)) rfl (pa_cons (pv 0) (pa_cons (pv 2) pa_nil))))))) (fun _ _ _ _ _ => (pv 2))) (pe_lst pa_nil) (nomark _))))), ?_⟩)
  · obtain ⟨v, d, p, k, rfl, _⟩ := h; rfl
  · obtain ⟨v, d, p, k, rfl, hk, hd, q⟩ := h
    have ty := hd.ty
    have kt := kit_tu (K := K) d
    cases e : isTu d with
    | false =>
      rw [e] at kt
      rw [isSe_no e] at q
      try walk_at "go"
      exact q H (Same.refl _)
    | true =>
      rw [e] at kt
      obtain ⟨ds, rfl⟩ := isTu_inv e
      obtain ⟨a, tr, rfl, rfl, ha, htr⟩ := hd.tup_inv
      have lm : (tr.map fun t => t.1).length = tr.length := List.length_map _
      have lm2 : (tr.map fun t => t.2).length = tr.length := List.length_map _
      try walk_at "go"
      by_cases el : tr.length = k
      · refine ifF (by rw [lm, el]; exact dec_ne rfl) ?_
        have ql : isSe k (.tuple (tr.map fun t => t.2)) = ((tr.filter fun t => !isSR k t.2).map fun t => t.1).isEmpty := by
          rw [filE (f := isSR k)]
          show (decide _ && _) = _
          rw [lm2, decide_eq_true el, Bool.true_and]
        rw [ql] at q
        try walk_at "go"
        intro D hD
        refine lc_tup (K := K) (a := a) (xs := tr.map fun t => t.1) (fun i H' => Kept (Same H H' ∧ H' D = some (.lst (((tr.take i).filter fun t => !isSR k t.2).map fun t => t.1)))) ⟨⟨same_new hD _, upd_same⟩⟩ (fun i H' _ h => SqT.of (h.ex.1 _ _ ha)) ?_ ?_
        · rintro i x H' hx ⟨S1, hD1⟩
          rw [List.getElem?_map] at hx
          obtain ⟨⟨tv, td⟩, ht, rfl⟩ := Option.map_eq_some_iff.mp hx
          have il := (List.getElem?_eq_some_iff.mp ht).1
          have th : Th K p H' tv td := (htr _ (List.mem_of_getElem? ht)).same S1
          have li : (((tr.take i).filter fun t => !isSR k t.2).map fun t => t.1).length ≤ 16 := by
            rw [List.length_map]
            have := List.length_filter_le (fun t : V × PyData => !isSR k t.2) (tr.take i)
            rw [List.length_take] at this
            omega
          have tk := filS (f := fun t : V × PyData => t.1) (g := fun t => !isSR k t.2) ht
          replace tk : ((tr.take (i + 1)).filter fun t => !isSR k t.2).map (fun t => t.1) = ((tr.take i).filter fun t => !isSR k t.2).map (fun t => t.1) ++ (if (!isSR k td) = true then [tv] else []) := tk
          have k1 : 1 ≤ k := by omega
          try walk_at "go"
          intro H3 S3
          have hD3 := S3 _ _ hD1
          cases er : isSR k td with
          | true =>
            rw [er, if_neg (by decide : ¬ (!true) = true), List.append_nil] at tk
            try walk_at "go"
            exact ⟨⟨S1.trans S3, by rw [tk]; exact hD3⟩⟩
          | false =>
            rw [er, if_pos (by decide : (!false) = true)] at tk
            try walk_at "go"
            exact ⟨⟨but_same hD (S1.trans S3) But.upd, by rw [upd_same, tk]⟩⟩
        rintro H2 ⟨S2, hD2⟩
        rw [lm, List.take_length] at hD2
        try walk_at "go"
        intro N hN
        generalize eH3 : upd _ N _ = H3
        have SH3 := newS eH3 hN
        have oN := newO eH3
        have hD3 := SH3 _ _ hD2
        try walk_at "go"
        exact q _ (S2.trans SH3)
      · refine ifT (by rw [lm, decide_eq_false (fun z => el (by have := V.int.inj z; omega))] <;> rfl) ?_
        have ql : isSe k (.tuple (tr.map fun t => t.2)) = false := by
          show (decide _ && _) = _
          rw [lm2, decide_eq_false el, Bool.false_and]
        rw [ql] at q
        try walk_at "go"
        exact q H (Same.refl _)
def spPutR : Sp := fun vs H Q _ => ∃ (R : Addr) (xs : List V) (n : Nat) (v : V), vs = [.ref R, .int n, v] ∧ H R = some (.tup xs) ∧ n < xs.length ∧ xs.length ≤ 20 ∧ ∀ T H', Same H H' → H' T = some (.tup (xs.take n ++ [v] ++ xs.drop (n + 1))) → Q (.ref T) H'
theorem k__law_put (D : Df K mg "_law_put" s__law_put ["_law_row", "_law_at", "_law_thing"]) : Dn P w K mg base 1 "_law_put" ["_law_row", "_law_at", "_law_thing"] spPutR := by
  refine D.ok fun f fd F => okG0 F sc__law_put (fun vs H Q E h => ?_) (fun cdv A outer s H vs Q E hr h => ⟨_, (pss_one (ps_ret (pe_op op_catU (pe_op op_catU (pe_slice sl_tupU (pv 0) po_none (po_some (pv 1))) (pe_tup (pa_cons (pv 2) pa_nil))) (pe_slice sl_tupU (pv 0) (po_some (pe_op op_add (pv 1) pe_int)) po_none)))), ?_⟩)
  · obtain ⟨R, xs, n, v, rfl, _⟩ := h; rfl
  · obtain ⟨R, xs, n, v, rfl, hR, hn, hx, q⟩ := h
    try walk_at "go"
    intro A H1 S1 oA
    rw [cut_to] at oA
    have hR1 := S1 _ _ hR
    try walk_at "go"
    intro C hC
    generalize eH2 : upd _ C _ = H2
    have SH2 := newS eH2 hC
    have oC := newO eH2
    have oA2 := SH2 _ _ oA
    have l1 : (xs.take n).length + [v].length ≤ sizeLine := by rw [List.length_take]; exact small (by show min n xs.length + 1 ≤ 1000; omega)
    try walk_at "go"
    intro D H3 S3 oD
    have hR3 := S3 _ _ (SH2 _ _ hR1)
    have e1 : (n : Int) + 1 = ((n + 1 : Nat) : Int) := by omega
    try walk_at "go"
    intro E H4 S4 oE
    rw [e1, cut_from] at oE
    have oD4 := S4 _ _ oD
    have l2 : (xs.take n ++ [v]).length + (xs.drop (n + 1)).length ≤ sizeLine := by rw [List.length_append, List.length_take, List.length_drop]; exact small (by show min n xs.length + 1 + (xs.length - (n + 1)) ≤ 1000; omega)
    try walk_at "go"
    intro F H5 S5 oF
    exact q F H5 (S1.trans (SH2.trans (S3.trans (S4.trans S5)))) oF
/-! SPLIT -/
def rDictP (K : PySem.W.Frag) : List V → Hp → VK → Prop := fun xs H Q => ∃ (a : Addr) (ps : List Addr) (kvs : List (Key × V)), xs = [.ref a] ∧ SqL K H a (ps.map V.ref) ∧ Paired (fun p kv => SqT K H p [kV kv.1, kv.2]) ps kvs ∧ ∀ p, H p = none → Q (.ref p) (L2.upd H p (.dK (mergeK [] kvs)))
omit B in
theorem PurseAt.fre {H : Hp} {p : Addr} {n : Nat} (h : PurseAt H p n) : H p ≠ none := by
  obtain ⟨_, _, _, h1, _⟩ := h
  rw [h1]; exact fun z => by cases z
omit B in
theorem PurseAt.lst {H : Hp} {p : Addr} {n : Nat} (h : PurseAt H p n) : ∃ ys, H p = some (.lst ys) := by
  obtain ⟨_, _, _, h1, _⟩ := h
  exact ⟨_, h1⟩
omit B in
theorem PurseAt.up {H : Hp} {p : Addr} {n m : Nat} (h : PurseAt H p n) (e : n ≤ m) : PurseAt H p m := by
  obtain ⟨a, c, t, h1, h2, h3⟩ := h
  exact ⟨a, c, t, h1, h2, Nat.le_trans h3 e⟩
/-- ints as things -/
def iT (xs : List Int) : List (V × PyData) := xs.map fun x => (.int x, .int x)
omit B in
theorem iT_v {xs : List Int} : (iT xs).map (fun t => t.1) = xs.map V.int := by unfold iT; rw [List.map_map] <;> rfl
omit B in
theorem iT_th {K : PySem.W.Frag} {S : Addr → Prop} {H : Hp} {xs : List Int} : ∀ t ∈ iT xs, ThL K S H t.1 t.2 := fun t ht => by
  obtain ⟨x, _, rfl⟩ := List.mem_map.mp ht
  exact .int x
omit B in
theorem putK_all {P : Key × V → Prop} {acc : List (Key × V)} {k : Key} {v : V} (h : ∀ x ∈ acc, P x) (hp : P (k, v)) : ∀ x ∈ putK acc k v, P x := fun x hx => by
  unfold putK at hx
  split at hx
  · obtain ⟨y, hy, rfl⟩ := List.mem_map.mp hx
    by_cases c : y.1 = k
    · rw [if_pos c, c]; exact hp
    · rw [if_neg c]; exact h y hy
  · rcases List.mem_append.mp hx with hx | hx
    · exact h x hx
    · cases List.mem_singleton.mp hx; exact hp
omit B in
theorem mergeK_all {P : Key × V → Prop} : ∀ (more acc : List (Key × V)), (∀ x ∈ acc, P x) → (∀ x ∈ more, P x) → ∀ x ∈ mergeK acc more, P x
  | [], acc, h, _ => h
  | (k, v) :: r, acc, h, g => mergeK_all r (putK acc k v) (putK_all h (g _ List.mem_cons_self)) fun x hx => g x (List.mem_cons_of_mem _ hx)
omit B in
theorem dct_of {K : PySem.W.Frag} {S : Addr → Prop} {H : Hp} {a : Addr} : ∀ {kvs : List (Key × V)}, (∀ x ∈ kvs, ∃ (i : Int) (d : PyData), x.1 = Sum.inl i ∧ ThL K S H x.2 d) → ∃ tr : List (Int × V × PyData), kvs = tr.map (fun t => (Sum.inl t.1, t.2.1)) ∧ ∀ t ∈ tr, ThL K S H t.2.1 t.2.2
  | [], _ => ⟨[], rfl, fun t ht => nomatch ht⟩
  | (k, v) :: r, h => by
    obtain ⟨tr, e, g⟩ := dct_of (a := a) (kvs := r) fun x hx => h x (List.mem_cons_of_mem _ hx)
    obtain ⟨i, d, e1, th⟩ := h _ List.mem_cons_self
    refine ⟨(i, v, d) :: tr, ?_, fun t ht => ?_⟩
    · rw [List.map_cons, ← e]
      have e1 : k = Sum.inl i := e1
      rw [e1]
    · rcases List.mem_cons.mp ht with rfl | ht
      · exact th
      · exact g t ht
omit B in
theorem ThL.tupv {K : PySem.W.Frag} {S : Addr → Prop} {H : Hp} {T : Addr} {xs : List V} (h : H T = some (.tup xs)) (g : ∃ tr : List (V × PyData), xs = tr.map (fun t => t.1) ∧ ∀ t ∈ tr, ThL K S H t.1 t.2) : ∃ d, ThL K S H (.ref T) d := by
  obtain ⟨tr, rfl, g⟩ := g
  exact ⟨_, .tup h g⟩
omit B in
theorem paired_of {α β : Type} {F : α → β → Prop} : ∀ {as : List α} {bs : List β}, as.length = bs.length → (∀ (i : Nat) (a : α) (b : β), as[i]? = some a → bs[i]? = some b → F a b) → Paired F as bs
  | [], [], _, _ => .nil
  | [], _ :: _, h, _ => by simp at h
  | _ :: _, [], h, _ => by simp at h
  | a :: as, b :: bs, h, q => .cons (q 0 a b rfl rfl) (paired_of (by simpa using h) fun i x y h1 h2 => q (i + 1) x y (by simpa using h1) (by simpa using h2))
def spBadR (K : PySem.W.Frag) : Sp := fun vs H Q _ => ∃ (p R : Addr) (xs : List Int) (cap : Nat), vs = [.ref p, .ref R] ∧ PurseAt H p cap ∧ cap ≤ 80000 ∧ H R = some (.tup (xs.map V.int)) ∧ 1 ≤ xs.length ∧ xs.length ≤ 8 ∧ ∀ v d H', But p H H' → PurseAt H' p (cap + 256) → ThL K (fun a => H a ≠ none) H' v d → Q v H'
theorem k__law_bad_row (D : Df K mg "_law_bad_row" s__law_bad_row ["_law_purse_here", "_law_row"]) (D__law_take : Dn P w K mg base 2 "_law_take" ["_law_purse_here", "_law_many"] (spTakeP K)) (D__law_put : Dn P w K mg base 1 "_law_put" ["_law_row", "_law_at", "_law_thing"] spPutR) : Dn P w K mg base 3 "_law_bad_row" ["_law_purse_here", "_law_row"] (spBadR K) := by
  refine D.ok fun f fd F => okG0 F sc__law_bad_row (fun vs H Q E h => ?_) (fun cdv A outer s H vs Q E hr h => ⟨_, (pss_cons (ps_set (i := 2) sc__law_bad_row.nd rfl (Or.inl rfl) (pe_cD D__law_take (hr.less (by decide)) rfl (pa_cons (pv 0) (pa_cons pe_int pa_nil))))
    (pss_cons (ps_set (i := 3) sc__law_bad_row.nd rfl (Or.inl rfl) (pe_cD D__law_take (hr.less (by decide)) rfl (pa_cons (pv 0) (pa_cons (pe_callB (lenK (K := K)) (by rfl) B.len_ (by decide +kernel) (pa_cons (pv 1) pa_nil)) pa_nil))))
    (pss_cons (ps_set (i := 4) sc__law_bad_row.nd rfl (Or.inl rfl) (pe_cD D__law_take (hr.less (by decide)) rfl (pa_cons (pv 0) (pa_cons pe_int pa_nil))))
    (pss_cons (ps_set (i := 5) sc__law_bad_row.nd rfl (Or.inl rfl) (pe_ix (kk (K := K) (F := rIxL) (P := IxR _) ix_list) (pe_lstS (pa_cons pe_int (pa_cons pe_int (pa_cons (pe_op op_add pe_int (pv 4)) (pa_cons (pe_op op_sub (pe_un un_neg pe_int) (pv 4)) (pa_cons pe_bl (pa_cons pe_bl (pa_cons pe_non (pa_cons pe_str (pa_cons (pe_tup (pa_cons pe_int pa_nil)) (pa_cons (pe_lstS (pa_cons pe_int pa_nil)) pa_nil))))))))))) (pe_cD D__law_take (hr.less (by decide)) rfl (pa_cons (pv 0) (pa_cons pe_int pa_nil))) (fun _ _ => rfl)))
    (pss_cons (ps_if (pt_cmpR op_lt (pv 2) pe_int (nomark _))
      (pss_one (ps_ret (pe_cD D__law_put (hr.less (by decide)) rfl (pa_cons (pv 1) (pa_cons (pv 3) (pa_cons (pv 5) pa_nil))))))
      pss_nil)
    (pss_cons (ps_if (pt_cmpR op_eq (pv 2) pe_int (nomark _))
      (pss_one (ps_ret (pe_op op_catU (pe_slice sl_tupU (pv 1) po_none (po_some (pv 3))) (pe_slice sl_tupU (pv 1) (po_some (pe_op op_add (pv 3) pe_int)) po_none))))
      pss_nil)
    (pss_cons (ps_set (i := 6) sc__law_bad_row.nd rfl (Or.inl rfl) (pe_callTy (kk (K := K) (F := fun K => rDictP K) (P := CallR _ _) (call_dictP rfl)) (by rfl) B.dict_ (by decide +kernel) (pa_cons (pe_lc (own := [("_law_place", 7)]) (g := gName 7) (tt := tYes) rfl sc__law_bad_row.nd (pi_range1 (by rfl) B.range_ (pa_cons (pe_callB (lenK (K := K)) (by rfl) B.len_ (by decide +kernel) (pa_cons (pv 1) pa_nil)) pa_nil)) (blkOk_by (own := [("_law_place", 7)]) (N := ["_law_purse_here", "_law_row", "_law_turn", "_law_at", "_law_far", "_law_odd", "_law_alike", "_law_place"]) (sc := defScope s__law_bad_row) (by decide +kernel)) (fun _ _ _ _ _ => (pg_name (i := 7) sc__law_bad_row.nd rfl (Or.inl rfl))) (fun _ _ _ _ _ => pts_nil) (fun _ _ _ _ _ => (pe_tup (pa_cons (pv 7) (pa_cons pe_int pa_nil))))) pa_nil)))
    (pss_one (ps_ret (pe_ix (kk (K := K) (F := rIxL) (P := IxR _) ix_list) (pe_lstS (pa_cons (pe_op op_catU (pe_op op_catU (pe_slice sl_tupU (pv 1) po_none (po_some (pv 3))) (pe_tup (pa_cons pe_int pa_nil))) (pe_slice sl_tupU (pv 1) (po_some (pv 3)) po_none)) (pa_cons (pe_callTy (lstOfS (K := K)) (by rfl) B.list_ (by decide +kernel) (pa_cons (pv 1) pa_nil)) (pa_cons (pe_op op_mulS pe_str (pe_callB (lenK (K := K)) (by rfl) B.len_ (by decide +kernel) (pa_cons (pv 1) pa_nil))) (pa_cons (pv 6) pa_nil))))) (pe_op op_sub (pv 2) pe_int) (fun _ _ => rfl))))))))))), ?_⟩)
  · obtain ⟨p, R, xs, cap, rfl, _⟩ := h; rfl
  · obtain ⟨p, R, xs, cap, rfl, hp, hc, hR, l1, l8, q⟩ := h
    have lm : (xs.map V.int).length = xs.length := List.length_map _
    try walk_at "go"
    intro t0 H1 t1 t2 b1 p1
    have hR1 := but_keep b1 hp _ _ hR
    try walk_at "go"
    intro a0 H2 a1 a2 b2 p2
    obtain ⟨a, rfl⟩ : ∃ a : Nat, a0 = (a : Int) := ⟨a0.toNat, by omega⟩
    rw [lm] at a2
    have hR2 := but_keep b2 p1 _ _ hR1
    try walk_at "go"
    intro f0 H3 f1 f2 b3 p3
    have hR3 := but_keep b3 p2 _ _ hR2
    have B3 := b1.trans (b2.trans b3)
    try walk_at "go"
    intro T1 hT1
    generalize eH4 : upd _ T1 _ = H4
    have SH4 := newS eH4 hT1
    have oT1 := newO eH4
    try walk_at "go"
    intro M1 hM1
    generalize eH5 : upd _ M1 _ = H5
    have SH5 := newS eH5 hM1
    have oM1 := newO eH5
    intro s5
    try walk_at "go"
    intro M2 hM2
    generalize eH6 : upd _ M2 _ = H6
    have SH6 := newS eH6 hM2
    have oM2 := newO eH6
    intro s6
    have p6 := PurseAt.same B (SH4.trans (SH5.trans SH6)) p3
    have f99 : f0 < 99 := f2
    try walk_at "go"
    intro e0 H7 e1 e2 b7 p7
    obtain ⟨e, rfl⟩ : ∃ e : Nat, e0 = (e : Int) := ⟨e0.toNat, by omega⟩
    have B36 := same_but (p := p) (SH4.trans (SH5.trans SH6))
    have B7 := B3.trans (B36.trans b7)
    have fr1 : ¬ (H M1 ≠ none) := fun z => z ((B3.trans (same_but SH4)).free (purse_ne B (PurseAt.same B SH4 p3) hM1) hM1)
    have nM2p : M2 ≠ p := purse_ne B (PurseAt.same B (SH4.trans SH5) p3) hM2
    have nM1p : M1 ≠ p := purse_ne B (PurseAt.same B SH4 p3) hM1
    let tr0 : List (V × PyData) := [(.int 0, .int 0), (.int 1, .int 1), (.int (2 + f0), .int (2 + f0)), (.int (-1 - f0), .int (-1 - f0)), (.bl true, .bool true), (.bl false, .bool false), (.non, .none), (.str "1", .str "1"), (.ref T1, .tuple [.int 1]), (  .ref M1, .list [.int 0])]
    have oT17 : H7 T1 = some (.tup [.int 1]) := b7 _ _ (fun z => by rw [z] at oT1; have := SH5 _ _ oT1; have := SH6 _ _ this; rw [p6.lst.choose_spec] at this; cases this) (SH6 _ _ (SH5 _ _ oT1))
    have oM17 : H7 M1 = some (.lst [.int 0]) := b7 _ _ nM1p (SH6 _ _ oM1)
    have all0 : ∀ t ∈ tr0, ThL K (fun a => H a ≠ none) H7 t.1 t.2 := fun t ht => by
      simp only [tr0, List.mem_cons, List.not_mem_nil, or_false] at ht
      rcases ht with rfl | rfl | rfl | rfl | rfl | rfl | rfl | rfl | rfl | rfl
      · exact .int _
      · exact .int _
      · exact .int _
      · exact .int _
      · exact .bl _
      · exact .bl _
      · exact .non
      · exact .str _
      · exact ThL.tup (tr := iT [1]) oT17 iT_th
      · exact ThL.lst (tr := iT [0]) fr1 s5 oM17 iT_th
    have oM27 : H7 M2 = some (.lst (tr0.map fun t => t.1)) := b7 _ _ nM2p oM2
    have el : e < tr0.length := by show e < 10; omega
    have ixe : atI (tr0.map fun t => t.1) (e : Int) = some tr0[e].1 := atI_nat (by rw [List.getElem?_map, List.getElem?_eq_getElem el] <;> rfl)
    have the := all0 _ (List.getElem_mem el)
    generalize tr0[e] = od at ixe the
    obtain ⟨ov, odt⟩ := od
    have hR7 := but_keep b7 p6 _ _ (SH6 _ _ (SH5 _ _ (SH4 _ _ hR3)))
    have p7' := p7
    clear_value tr0
    try walk_at "go"
    have end_ : ∀ v d H', But p H7 H' → ThL K (fun a => H a ≠ none) H' v d → PurseAt H' p (cap + 256) → Q v H' := fun v d H' be th pe => q v d H' (B7.trans be) pe th
    have pS : ∀ H', Same H7 H' → PurseAt H' p (cap + 256) := fun H' S => (PurseAt.same B S p7).up (by omega)
    refine ite2 (fun c1 => ?_) (fun c1 => ?_)
    · try walk_at "go"
      intro T H8 S8 oT
      refine end_ _ (.tuple (((iT xs).take a ++ [(ov, odt)] ++ (iT xs).drop (a + 1)).map fun t => t.2)) H8 (same_but S8) (ThL.tup (by rw [oT, ← iT_v, ← List.map_take, ← List.map_drop, List.map_append, List.map_append] <;> rfl) fun t ht => ?_) (pS _ S8)
      rcases List.mem_append.mp ht with ht | ht
      · rcases List.mem_append.mp ht with ht | ht
        · exact iT_th t (List.mem_of_mem_take ht)
        · cases List.mem_singleton.mp ht
          exact the.same S8
      · exact iT_th t (List.mem_of_mem_drop ht)
    have ea : (a : Int) + 1 = ((a + 1 : Nat) : Int) := by omega
    have lt1 : ((xs.map V.int).take a).length ≤ 8 := by rw [List.length_take]; omega
    have lt2 : ∀ n, ((xs.map V.int).drop n).length ≤ 8 := fun n => by rw [List.length_drop]; omega
    try walk_at "go"
    refine ite2 (fun c2 => ?_) (fun c2 => ?_)
    · try walk_at "go"
      intro A H8 S8 oA
      rw [cut_to] at oA
      have hR8 := S8 _ _ hR7
      try walk_at "go"
      intro C H9 S9 oC
      rw [ea, cut_from] at oC
      have oA9 := S9 _ _ oA
      have lq : ((xs.map V.int).take a).length + ((xs.map V.int).drop (a + 1)).length ≤ sizeLine := small (by have := lt2 (a + 1); omega)
      try walk_at "go"
      intro T H10 S10 oT
      have S70 := S8.trans (S9.trans S10)
      refine end_ _ (.tuple (((iT xs).take a ++ (iT xs).drop (a + 1)).map fun t => t.2)) H10 (same_but S70) (ThL.tup (by rw [oT, ← iT_v, ← List.map_take, ← List.map_drop, List.map_append] <;> rfl) fun t ht => ?_) (pS _ S70)
      rcases List.mem_append.mp ht with ht | ht
      · exact iT_th t (List.mem_of_mem_take ht)
      · exact iT_th t (List.mem_of_mem_drop ht)
    have t3 : 4 ≤ t0 := by
      have c1 : ¬ t0 < 3 := fun z => c1 (decide_eq_true z)
      have c2 : ¬ t0 = 3 := fun z => c2 (by rw [z]; exact decide_eq_true rfl)
      omega
    try walk_at "go"
    intro D hD
    rw [Int.toNat_natCast, lm]
    refine lc_range (lo := 0) (n := xs.length) (fun i H' => Kept (∃ us : List Addr, Same H7 H' ∧ H' D = some (.lst (us.map V.ref)) ∧ us.length = i ∧ ∀ (j : Nat) (u : Addr), us[j]? = some u → H' u = some (.tup [.int j, .int 0]))) ⟨⟨[], same_new hD _, upd_same, rfl, fun j u h => by simp at h⟩⟩ ?_ ?_
    · rintro i H8 hi ⟨us, S8, oD, lu, hu⟩
      rw [Int.zero_add]
      have lul : (us.map V.ref).length ≤ 8 := by rw [List.length_map]; omega
      try walk_at "go"
      intro U hU
      generalize eH9 : upd _ U _ = H9
      have SH9 := newS eH9 hU
      have oU := newO eH9
      have oD9 := SH9 _ _ oD
      try walk_at "go"
      refine ⟨⟨us ++ [U], but_same hD (S8.trans SH9) But.upd, by rw [upd_same, List.map_append] <;> rfl, by rw [List.length_append, lu] <;> rfl, fun j u h => ?_⟩⟩
      have tk : ∀ r ys, H9 r = some (.tup ys) → L2.upd H9 D (.lst (us.map V.ref ++ [.ref U])) r = some (.tup ys) := fun r ys z => by rw [upd_ne (ne_of z oD9 (by intro w; cases w))]; exact z
      by_cases cc : j < us.length
      · rw [List.getElem?_append_left cc] at h
        exact tk _ _ (SH9 _ _ (hu j u h))
      · rw [List.getElem?_append_right (by omega)] at h
        have hj : j = i := by
          have := (List.getElem?_eq_some_iff.mp h).1
          have h5 : [U].length = 1 := rfl
          omega
        subst hj
        rw [lu, Nat.sub_self] at h
        cases (Option.some.inj h)
        exact tk _ _ oU
    rintro H8 ⟨us, S8, oD, lu, hu⟩
    have prd : Paired (fun (p : Addr) (kv : Key × V) => SqT K H8 p [kV kv.1, kv.2]) us ((List.range xs.length).map fun (i : Nat) => ((Sum.inl (i : Int) : Key), V.int 0)) := by
      refine paired_of (by rw [List.length_map, List.length_range, lu]) fun i u kv h1 h2 => ?_
      have il : i < xs.length := by have := (List.getElem?_eq_some_iff.mp h1).1; omega
      rw [List.getElem?_map, List.getElem?_range il] at h2
      cases (Option.some.inj h2)
      exact SqT.of (hu i u h1)
    have hR8 := S8 _ _ hR7
    try walk_at "go"
    intro U6 nU6
    generalize eU6 : upd H8 U6 _ = H9
    have S9 := newS eU6 nU6
    have oU6 := newO eU6
    obtain ⟨dtr, edt, dth⟩ : ∃ tr : List (Int × V × PyData), mergeK [] ((List.range xs.length).map fun (i : Nat) => ((Sum.inl (i : Int) : Key), V.int 0)) = tr.map (fun t => (Sum.inl t.1, t.2.1)) ∧ ∀ t ∈ tr, ThL K (fun a => H a ≠ none) H9 t.2.1 t.2.2 := by
      refine dct_of (a := U6) (mergeK_all (P := fun x => ∃ (i : Int) (d : PyData), x.1 = Sum.inl i ∧ ThL K (fun a => H a ≠ none) H9 x.2 d) _ _ (fun x hx => nomatch hx) fun x hx => ?_)
      obtain ⟨i, _, rfl⟩ := List.mem_map.mp hx
      exact ⟨_, .int 0, rfl, .int 0⟩
    rw [edt] at oU6
    have thD : ThL K (fun a => H a ≠ none) H9 (.ref U6) (.dict (dtr.map fun t => (.int t.1, t.2.2))) := .dct oU6 dth
    have hR9 := S9 _ _ hR8
    try walk_at "go"
    intro A H10 S10 oA
    rw [cut_to] at oA
    have hR10 := S10 _ _ hR9
    try walk_at "go"
    intro C hC
    generalize eH11 : upd _ C _ = H11
    have SH11 := newS eH11 hC
    have oC := newO eH11
    have oA11 := SH11 _ _ oA
    have lq : ((xs.map V.int).take a).length + [V.int 0].length ≤ sizeLine := small (by show _ + 1 ≤ 1000; omega)
    try walk_at "go"
    intro E1 H12 S12 oE1
    have hR12 := S12 _ _ (SH11 _ _ hR10)
    try walk_at "go"
    intro F1 H13 S13 oF1
    rw [cut_from] at oF1
    have oE13 := S13 _ _ oE1
    have lq2 : ((xs.map V.int).take a ++ [V.int 0]).length + ((xs.map V.int).drop a).length ≤ sizeLine := small (by rw [List.length_append]; have := lt2 a; show _ + 1 + _ ≤ 1000; omega)
    try walk_at "go"
    intro G1 H14 S14 oG1
    have hR14 := S14 _ _ (S13 _ _ hR12)
    try walk_at "go"
    intro L5 hL5
    generalize eH15 : upd _ L5 _ = H15
    have SH15 := newS eH15 hL5
    have oL5 := newO eH15
    intro s15
    have hR15 := SH15 _ _ hR14
    try walk_at "go"
    intro rt
    try walk_at "go"
    intro L6 hL6
    generalize eH16 : upd _ L6 _ = H16
    have SH16 := newS eH16 hL6
    have oL6 := newO eH16
    intro s16
    have S716 := S8.trans (S9.trans (S10.trans (SH11.trans (S12.trans (S13.trans (S14.trans (SH15.trans SH16)))))))
    have fr5 : ¬ (H L5 ≠ none) := fun z => z ((B7.trans (same_but (S8.trans (S9.trans (S10.trans (SH11.trans (S12.trans (S13.trans S14)))))))).free (purse_ne B (PurseAt.same B (S8.trans (S9.trans (S10.trans (SH11.trans (S12.trans (S13.trans S14)))))) p7) hL5) hL5)
    have oG16 := SH16 _ _ (SH15 _ _ oG1)
    have e_ : ∀ v d, ThL K (fun a => H a ≠ none) H16 v d → Q v H16 := fun v d th => end_ v d H16 (same_but S716) th (pS _ S716)
    have f1 : Q (.ref G1) H16 := e_ (.ref G1) (.tuple (((iT xs).take a ++ [((V.int 0, PyData.int 0) : V × PyData)] ++ (iT xs).drop a).map fun t => t.2)) (ThL.tup (by rw [oG16, ← iT_v, ← List.map_take, ← List.map_drop, List.map_append, List.map_append] <;> rfl) fun t ht => by
      rcases List.mem_append.mp ht with ht | ht
      · rcases List.mem_append.mp ht with ht | ht
        · exact iT_th t (List.mem_of_mem_take ht)
        · cases List.mem_singleton.mp ht
          exact .int 0
      · exact iT_th t (List.mem_of_mem_drop ht))
    have f2 : Q (.ref L5) H16 := e_ (.ref L5) (.list ((iT xs).map fun t => t.2)) (ThL.lst fr5 s15 (by rw [SH16 _ _ oL5, iT_v]) iT_th)
    have f3 : Q (.str rt) H16 := e_ _ (.str rt) (.str rt)
    have f4 : Q (.ref U6) H16 := e_ _ _ (thD.same (S10.trans (SH11.trans (S12.trans (S13.trans (S14.trans (SH15.trans SH16)))))))
    rcases (show t0 = 4 ∨ t0 = 5 ∨ t0 = 6 ∨ t0 = 7 by omega) with rfl | rfl | rfl | rfl
    · have ix : atI [V.ref G1, V.ref L5, V.str rt, V.ref U6] (4 - 4) = some (.ref G1) := rfl
      try walk_at "go"
      exact f1
    · have ix : atI [V.ref G1, V.ref L5, V.str rt, V.ref U6] (5 - 4) = some (.ref L5) := rfl
      try walk_at "go"
      exact f2
    · have ix : atI [V.ref G1, V.ref L5, V.str rt, V.ref U6] (6 - 4) = some (.str rt) := rfl
      try walk_at "go"
      exact f3
    · have ix : atI [V.ref G1, V.ref L5, V.str rt, V.ref U6] (7 - 4) = some (.ref U6) := rfl
      try walk_at "go"
      exact f4
/-! SPLIT -/
omit B in
theorem cut_midU {xs : List V} (n m : Nat) (h : n ≤ xs.length) : cutV xs (some (n : Int)) (some (m : Int)) = (xs.drop n).take (m - n) := by
  unfold cutV
  rw [HT.sIx_nat, HT.sIx_nat, Nat.min_eq_left h]
  by_cases c : m ≤ xs.length
  · rw [Nat.min_eq_left c]
  · rw [Nat.min_eq_right (by omega), List.take_of_length_le (by rw [List.length_drop] <;> exact Nat.le_refl _), List.take_of_length_le (by rw [List.length_drop]; omega)]
omit B in
theorem se_tr {H : Hp} {T : Addr} {k : Nat} {s : Nat → Nat → Int} (h : SeAt H T k s) : ∃ tr : List (V × PyData), H T = some (.tup (tr.map fun t => t.1)) ∧ tr.length = k ∧ (∀ (K : PySem.W.Frag) (S : Addr → Prop), ∀ t ∈ tr, ThL K S H t.1 t.2) ∧ (∀ (j : Nat), j < k → ∃ r : Addr, tr[j]? = some (V.ref r, .tuple ((row k s j).map PyData.int)) ∧ H r = some (.tup ((row k s j).map V.int))) := by
  obtain ⟨as, h1, h2, h3⟩ := h
  have ix : ∀ j, j < k → ((List.range k).map fun j => (V.ref (as.getD j 0), PyData.tuple ((row k s j).map PyData.int)))[j]? = some (V.ref (as.getD j 0), .tuple ((row k s j).map PyData.int)) := fun j hj => by rw [List.getElem?_map, List.getElem?_range hj] <;> rfl
  have rw_ : ∀ j, j < k → H (as.getD j 0) = some (.tup ((row k s j).map V.int)) := fun j hj => by
    have e : as[j]? = some as[j] := List.getElem?_eq_getElem (by omega)
    rw [List.getD_eq_getElem?_getD, e]
    exact h3 j _ e
  refine ⟨(List.range k).map fun j => (V.ref (as.getD j 0), .tuple ((row k s j).map PyData.int)), ?_, by rw [List.length_map, List.length_range], fun K S t ht => ?_, fun j hj => ⟨as.getD j 0, ix j hj, rw_ j hj⟩⟩
  · rw [h1, List.map_map]
    congr 2
    refine List.ext_getElem? fun j => ?_
    rw [List.getElem?_map, List.getElem?_map]
    by_cases hj : j < k
    · rw [List.getElem?_range hj, List.getElem?_eq_getElem (by omega)]
      show some (V.ref as[j]) = some (V.ref (as.getD j 0))
      rw [List.getD_eq_getElem?_getD, List.getElem?_eq_getElem (by omega)] <;> rfl
    · rw [List.getElem?_eq_none (by omega), List.getElem?_eq_none (by rw [List.length_range]; omega)] <;> rfl
  · obtain ⟨j, hj, rfl⟩ := List.mem_map.mp ht
    have hj := List.mem_range.mp hj
    have := ThL.tup (K := K) (S := S) (H := H) (a := as.getD j 0) (tr := iT (row k s j)) (by rw [rw_ j hj, iT_v]) iT_th
    have e2 : (iT (row k s j)).map (fun t => t.2) = (row k s j).map PyData.int := by unfold iT; rw [List.map_map] <;> rfl
    rw [e2] at this
    exact this
def spOther (K : PySem.W.Frag) : Sp := fun vs H Q _ => ∃ (p T : Addr) (k : Nat) (s : Nat → Nat → Int) (cap : Nat), vs = [.ref p, .int k, .ref T] ∧ PurseAt H p cap ∧ cap ≤ 70000 ∧ k ≤ 4 ∧ SeAt H T k s ∧ Bt s ∧ ∀ v d H', But p H H' → PurseAt H' p (cap + 5000) → ThL K (fun a => H a ≠ none) H' v d → Q v H'
theorem k__law_otherwise (D : Df K mg "_law_otherwise" s__law_otherwise ["_law_purse_here", "_law_k", "_law_settings_here"]) (D__law_take : Dn P w K mg base 2 "_law_take" ["_law_purse_here", "_law_many"] (spTakeP K)) (D__law_settings : Dn P w K mg base 3 "_law_settings" ["_law_purse_here", "_law_k"] (spSettS K)) (D__law_put : Dn P w K mg base 1 "_law_put" ["_law_row", "_law_at", "_law_thing"] spPutR) (D__law_bad_row : Dn P w K mg base 3 "_law_bad_row" ["_law_purse_here", "_law_row"] (spBadR K)) : Dn P w K mg base 4 "_law_otherwise" ["_law_purse_here", "_law_k", "_law_settings_here"] (spOther K) := by
  refine D.ok fun f fd F => okG0 F sc__law_otherwise (fun vs H Q E h => ?_) (fun cdv A outer s H vs Q E hr h => ⟨_, (pss_cons (ps_set (i := 3) sc__law_otherwise.nd rfl (Or.inl rfl) (pe_cD D__law_take (hr.less (by decide)) rfl (pa_cons (pv 0) (pa_cons pe_int pa_nil))))
    (pss_cons (ps_set (i := 4) sc__law_otherwise.nd rfl (Or.inl rfl) (pe_ix (kk (K := K) (F := rIxL) (P := IxR _) ix_list) (pe_lstS (pa_cons pe_non (pa_cons pe_int (pa_cons pe_bl (pa_cons pe_str (pa_cons (pe_lstS pa_nil) (pa_cons pe_dnewK (pa_cons (pe_tup (pa_cons (pe_tup pa_nil) pa_nil)) (pa_cons (pe_tup (pa_cons pe_int pa_nil)) (pa_cons (pe_tup (pa_cons (pe_tup (pa_cons pe_int pa_nil)) pa_nil)) (pa_cons (pe_tup (pa_cons pe_non pa_nil)) pa_nil))))))))))) (pe_cD D__law_take (hr.less (by decide)) rfl (pa_cons (pv 0) (pa_cons pe_int pa_nil))) (fun _ _ => rfl)))
    (pss_cons (ps_if (PW.pt (pw_or (pt_cmpR op_eq (pv 3) pe_int (nomark _)) (pw_or1 (pt_cmpR op_eq (pv 1) pe_int (nomark _)))))
      (pss_one (ps_ret (pv 4)))
      pss_nil)
    (pss_cons (ps_if (pt_cmpR op_eq (pv 3) pe_int (nomark _))
      (pss_one (ps_ret (pe_cD D__law_settings (hr.less (by decide)) rfl (pa_cons (pv 0) (pa_cons (pe_cD D__law_take (hr.less (by decide)) rfl (pa_cons (pv 0) (pa_cons pe_int pa_nil))) pa_nil)))))
      pss_nil)
    (pss_cons (ps_if (pt_cmpR op_eq (pv 3) pe_int (nomark _))
      (pss_one (ps_ret (pe_ix (kk (K := K) (F := rIxL) (P := IxR _) ix_list) (pe_lstS (pa_cons (pe_callTy (lstOfS (K := K)) (by rfl) B.list_ (by decide +kernel) (pa_cons (pv 2) pa_nil)) (pa_cons (pe_callTy (kk (K := K) (F := fun K => rDictP K) (P := CallR _ _) (call_dictP rfl)) (by rfl) B.dict_ (by decide +kernel) (pa_cons (kk (K := K) (F := fun K => tListEnT K _) (P := PE _ _) (pe_listEnT rfl (by rfl) B.list_ (by rfl) B.enumerate_ (pa_cons (pv 2) pa_nil))) pa_nil)) pa_nil))) (pe_cD D__law_take (hr.less (by decide)) rfl (pa_cons (pv 0) (pa_cons pe_int pa_nil))) (fun _ _ => rfl))))
      pss_nil)
    (pss_cons (ps_set (i := 5) sc__law_otherwise.nd rfl (Or.inl rfl) (pe_cD D__law_take (hr.less (by decide)) rfl (pa_cons (pv 0) (pa_cons (pv 1) pa_nil))))
    (pss_cons (ps_if (pt_cmpR op_eq (pv 3) pe_int (nomark _))
      (pss_one (ps_ret (pe_op op_catU (pe_slice sl_tupU (pv 2) po_none (po_some (pv 5))) (pe_slice sl_tupU (pv 2) (po_some (pe_op op_add (pv 5) pe_int)) po_none))))
      pss_nil)
    (pss_cons (ps_if (pt_cmpR op_eq (pv 3) pe_int (nomark _))
      (pss_one (ps_ret (pe_op op_catU (pe_op op_catU (pe_slice sl_tupU (pv 2) po_none (po_some (pv 5))) (pe_slice sl_tupU (pv 2) (po_some (pv 5)) (po_some (pe_op op_add (pv 5) pe_int)))) (pe_slice sl_tupU (pv 2) (po_some (pv 5)) po_none))))
      pss_nil)
    (pss_cons (ps_if (pt_cmpR op_eq (pv 3) pe_int (nomark _))
      (pss_one (ps_ret (pe_cD D__law_put (hr.less (by decide)) rfl (pa_cons (pv 2) (pa_cons (pv 5) (pa_cons (pe_ix (kk (K := K) (F := rIxL) (P := IxR _) ix_list) (pe_lstS (pa_cons pe_non (pa_cons pe_int (pa_cons (pe_lstS pa_nil) (pa_cons (pe_tup pa_nil) pa_nil))))) (pe_cD D__law_take (hr.less (by decide)) rfl (pa_cons (pv 0) (pa_cons pe_int pa_nil))) (fun _ _ => rfl)) pa_nil))))))
      pss_nil)
    (pss_one (ps_ret (pe_cD D__law_put (hr.less (by decide)) rfl (pa_cons (pv 2) (pa_cons (pv 5) (pa_cons (pe_cD D__law_bad_row (hr.less (by decide)) rfl (pa_cons (pv 0) (pa_cons (pe_ix (kk (K := K) (F := rIxT) (P := IxR _) ix_tup) (pv 2) (pv 5) (fun _ _ => rfl)) pa_nil))) pa_nil))))))))))))))), ?_⟩)
  · obtain ⟨p, T, k, s, cap, rfl, _⟩ := h; rfl
  · obtain ⟨p, T, k, s, cap, rfl, hp, hc, hk, hS, hb, q⟩ := h
    try walk_at "go"
    intro t0 H1 t1 t2 b1 p1
    obtain ⟨tr, hT, ltr, thb, rwb⟩ := se_tr hS
    have thS : ∀ H', But p H H' → ∀ t ∈ tr, ThL K (fun a => H a ≠ none) H' t.1 t.2 := fun H' be t ht => (thb K _ t ht).but hp.fre be hp.lst.choose_spec
    have hTS : ∀ H', But p H H' → H' T = some (.tup (tr.map fun t => t.1)) := fun H' be => but_keep be hp _ _ hT
    have lm : (tr.map fun t => t.1).length = k := by rw [List.length_map, ltr]
    try walk_at "go"
    intro M1 hM1
    generalize eH2 : upd _ M1 _ = H2
    have SH2 := newS eH2 hM1
    have oM1 := newO eH2
    intro s2
    try walk_at "go"
    intro M2 hM2
    generalize eH3 : upd _ M2 _ = H3
    have SH3 := newS eH3 hM2
    have oM2 := newO eH3
    try walk_at "go"
    intro U1 hU1
    generalize eH4 : upd _ U1 _ = H4
    have SH4 := newS eH4 hU1
    have oU1 := newO eH4
    try walk_at "go"
    intro U2 hU2
    generalize eH5 : upd _ U2 _ = H5
    have SH5 := newS eH5 hU2
    have oU2 := newO eH5
    try walk_at "go"
    intro U3 hU3
    generalize eH6 : upd _ U3 _ = H6
    have SH6 := newS eH6 hU3
    have oU3 := newO eH6
    try walk_at "go"
    intro U4 hU4
    generalize eH7 : upd _ U4 _ = H7
    have SH7 := newS eH7 hU4
    have oU4 := newO eH7
    try walk_at "go"
    intro U5 hU5
    generalize eH8 : upd _ U5 _ = H8
    have SH8 := newS eH8 hU5
    have oU5 := newO eH8
    try walk_at "go"
    intro U6 hU6
    generalize eH9 : upd _ U6 _ = H9
    have SH9 := newS eH9 hU6
    have oU6 := newO eH9
    try walk_at "go"
    intro M3 hM3
    generalize eH10 : upd _ M3 _ = H10
    have SH10 := newS eH10 hM3
    have oM3 := newO eH10
    intro s10
    have S19 := SH2.trans (SH3.trans (SH4.trans (SH5.trans (SH6.trans (SH7.trans (SH8.trans SH9))))))
    have p9 := PurseAt.same B S19 p1
    have p10 := PurseAt.same B SH10 p9
    have nM3p : M3 ≠ p := purse_ne B p9 hM3
    have fr1 : ¬ (H M1 ≠ none) := fun z => z (b1.free (purse_ne B p1 hM1) hM1)
    have nM1p : M1 ≠ p := purse_ne B p1 hM1
    try walk_at "go"
    intro e0 H11 e1 e2 b11 p11
    obtain ⟨e, rfl⟩ : ∃ e : Nat, e0 = (e : Int) := ⟨e0.toNat, by omega⟩
    have kt : ∀ t xs, H10 t = some (.tup xs) → H11 t = some (.tup xs) := but_keep b11 p10
    let tr0 : List (V × PyData) := [(.non, .none), (.int 0, .int 0), (.bl true, .bool true), (.str "settings", .str "settings"), (.ref M1, .list []), (.ref M2, .dict []), (.ref U2, .tuple [.tuple []]), (.ref U3, .tuple [.int 0]), (.ref U5, .tuple [.tuple [.int 0]]), (.ref U6, .tuple [.none])]
    have oU1' : H11 U1 = some (.tup []) := kt _ _ (SH10 _ _ (SH9 _ _ (SH8 _ _ (SH7 _ _ (SH6 _ _ (SH5 _ _ oU1))))))
    have oU2' : H11 U2 = some (.tup [.ref U1]) := kt _ _ (SH10 _ _ (SH9 _ _ (SH8 _ _ (SH7 _ _ (SH6 _ _ oU2)))))
    have oU3' : H11 U3 = some (.tup [.int 0]) := kt _ _ (SH10 _ _ (SH9 _ _ (SH8 _ _ (SH7 _ _ oU3))))
    have oU4' : H11 U4 = some (.tup [.int 0]) := kt _ _ (SH10 _ _ (SH9 _ _ (SH8 _ _ oU4)))
    have oU5' : H11 U5 = some (.tup [.ref U4]) := kt _ _ (SH10 _ _ (SH9 _ _ oU5))
    have oU6' : H11 U6 = some (.tup [.non]) := kt _ _ (SH10 _ _ oU6)
    have S210 := SH3.trans (SH4.trans (SH5.trans (SH6.trans (SH7.trans (SH8.trans (SH9.trans SH10))))))
    have oM1' : H11 M1 = some (.lst []) := b11 _ _ nM1p (S210 _ _ oM1)
    have oM2' : H11 M2 = some (.dK []) := b11 _ _ (fun z => by have := (SH4.trans (SH5.trans (SH6.trans (SH7.trans (SH8.trans (SH9.trans SH10)))))) _ _ oM2; rw [z, p10.lst.choose_spec] at this; cases this) ((SH4.trans (SH5.trans (SH6.trans (SH7.trans (SH8.trans (SH9.trans SH10)))))) _ _ oM2)
    have t1_ : ∀ (U : Addr) (v : V) (d : PyData), H11 U = some (.tup [v]) → ThL K (fun a => H a ≠ none) H11 v d → ThL K (fun a => H a ≠ none) H11 (.ref U) (.tuple [d]) := fun U v d h g => ThL.tup (tr := [(v, d)]) h fun t ht => by cases List.mem_singleton.mp ht; exact g
    have all0 : ∀ t ∈ tr0, ThL K (fun a => H a ≠ none) H11 t.1 t.2 := fun t ht => by
      simp only [tr0, List.mem_cons, List.not_mem_nil, or_false] at ht
      rcases ht with rfl | rfl | rfl | rfl | rfl | rfl | rfl | rfl | rfl | rfl
      · exact .non
      · exact .int _
      · exact .bl _
      · exact .str _
      · exact ThL.lst (tr := []) fr1 s2 oM1' fun t ht => nomatch ht
      · exact ThL.dct (tr := []) oM2' fun t ht => nomatch ht
      · exact t1_ _ _ _ oU2' (ThL.tup (tr := []) oU1' fun t ht => nomatch ht)
      · exact t1_ _ _ _ oU3' (.int 0)
      · exact t1_ _ _ _ oU5' (t1_ _ _ _ oU4' (.int 0))
      · exact t1_ _ _ _ oU6' .non
    have oM3' : H11 M3 = some (.lst (tr0.map fun t => t.1)) := b11 _ _ nM3p oM3
    have el : e < tr0.length := by show e < 10; omega
    have ixe : atI (tr0.map fun t => t.1) (e : Int) = some tr0[e].1 := atI_nat (by rw [List.getElem?_map, List.getElem?_eq_getElem el] <;> rfl)
    have the := all0 _ (List.getElem_mem el)
    generalize tr0[e] = od at ixe the
    obtain ⟨ov, odt⟩ := od
    clear_value tr0
    have B11 : But p H H11 := b1.trans ((same_but (S19.trans SH10)).trans b11)
    clear oU1' oU2' oU3' oU4' oU5' oU6' oM1' oM2' t1_ all0 kt oM1 oM2 oU1 oU2 oU3 oU4 oU5 oU6 oM3 eH2 eH3 eH4 eH5 eH6 eH7 eH8 eH9 eH10 hM1 hM2 hU1 hU2 hU3 hU4 hU5 hU6 hM3 S19 S210 SH2 SH3 SH4 SH5 SH6 SH7 SH8 SH9 SH10
    try walk_at "go"
    have end_ : ∀ v d H', But p H11 H' → ThL K (fun a => H a ≠ none) H' v d → PurseAt H' p (cap + 5000) → Q v H' := fun v d H' be th pe => q v d H' (B11.trans be) pe th
    refine ite2 (fun c1 => ?_) (fun c1 => ?_)
    · try walk_at "go"
      exact end_ _ _ H11 But.refl the (p11.up (by omega))
    try walk_at "go"
    refine ite2 (fun c2 => ?_) (fun c2 => ?_)
    · try walk_at "go"
      exact end_ _ _ H11 But.refl the (p11.up (by omega))
    have k1 : 1 ≤ k := by
      rcases Nat.eq_zero_or_pos k with z | z
      · exact absurd (by rw [z]; exact decide_eq_true rfl) c2
      · exact z
    try walk_at "go"
    refine ite2 (fun c3 => ?_) (fun c3 => ?_)
    · try walk_at "go"
      intro m0 H12 m1 m2 b12 p12
      obtain ⟨m, rfl⟩ : ∃ m : Nat, m0 = (m : Int) := ⟨m0.toNat, by omega⟩
      try walk_at "go"
      intro T2 s2_ H13 b13 p13 hS13 hb13
      obtain ⟨tr2, hT2, _, th2, _⟩ := se_tr hS13
      exact end_ _ _ H13 (b12.trans b13) (ThL.tup hT2 (th2 K _)) (p13.up (by omega))
    have hT11 := hTS H11 B11
    have th11 := thS H11 B11
    try walk_at "go"
    refine ite2 (fun c4 => ?_) (fun c4 => ?_)
    · try walk_at "go"
      intro L12 hL12
      generalize eH12 : upd _ L12 _ = H12
      have SH12 := newS eH12 hL12
      have oL12 := newO eH12
      intro s12
      have p12 := PurseAt.same B SH12 p11
      have nL12p : L12 ≠ p := purse_ne B p11 hL12
      have fr12 : ¬ (H L12 ≠ none) := fun z => z (B11.free (purse_ne B p11 hL12) hL12)
      have hT12 := SH12 _ _ hT11
      have lm1000 : (tr.map fun t => t.1).length ≤ 1000 := by omega
      try walk_at "go"
      intro S ts H13 S13 nS oS lts ixs
      have prd : Paired (fun (p : Addr) (kv : Key × V) => SqT K H13 p [kV kv.1, kv.2]) ts ((List.range k).map fun (i : Nat) => ((Sum.inl (i : Int) : Key), (tr.getD i (.non, .none)).1)) := by
        refine paired_of (by rw [List.length_map, List.length_range, lts, lm]) fun i u kv h1 h2 => ?_
        have il : i < k := by have := (List.getElem?_eq_some_iff.mp h1).1; omega
        rw [List.getElem?_map, List.getElem?_range il] at h2
        cases (Option.some.inj h2)
        refine SqT.of (ixs i u _ h1 ?_)
        show _ = some (tr.getD i (.non, .none)).1
        rw [List.getElem?_map, List.getD_eq_getElem?_getD, List.getElem?_eq_getElem (by omega)] <;> rfl
      try walk_at "go"
      intro U6 nU6
      generalize eU6 : upd H13 U6 _ = H14
      have S14 := newS eU6 nU6
      have oU6 := newO eU6
      have S1114 := SH12.trans (S13.trans S14)
      obtain ⟨dtr, edt, dth⟩ : ∃ tr' : List (Int × V × PyData), mergeK [] ((List.range k).map fun (i : Nat) => ((Sum.inl (i : Int) : Key), (tr.getD i (.non, .none)).1)) = tr'.map (fun t => (Sum.inl t.1, t.2.1)) ∧ ∀ t ∈ tr', ThL K (fun a => H a ≠ none) H14 t.2.1 t.2.2 := by
        refine dct_of (a := U6) (mergeK_all (P := fun x => ∃ (i : Int) (d : PyData), x.1 = Sum.inl i ∧ ThL K (fun a => H a ≠ none) H14 x.2 d) _ _ (fun x hx => nomatch hx) fun x hx => ?_)
        obtain ⟨i, hi, rfl⟩ := List.mem_map.mp hx
        have hi := List.mem_range.mp hi
        refine ⟨_, (tr.getD i (.non, .none)).2, rfl, ?_⟩
        have : tr.getD i (.non, .none) ∈ tr := by rw [List.getD_eq_getElem?_getD, List.getElem?_eq_getElem (by omega)]; exact List.getElem_mem _
        exact (th11 _ this).same S1114
      rw [edt] at oU6
      have thD : ThL K (fun a => H a ≠ none) H14 (.ref U6) (.dict (dtr.map fun t => (.int t.1, t.2.2))) := .dct oU6 dth
      try walk_at "go"
      intro L15 hL15
      generalize eH15 : upd _ L15 _ = H15
      have SH15 := newS eH15 hL15
      have oL15 := newO eH15
      intro s15
      have p15 := PurseAt.same B (S1114.trans SH15) p11
      have nL15p : L15 ≠ p := purse_ne B (PurseAt.same B S1114 p11) hL15
      try walk_at "go"
      intro m0 H16 m1 m2 b16 p16
      have oL15' := b16 _ _ nL15p oL15
      have th1 : ThL K (fun a => H a ≠ none) H16 (.ref U6) (.dict (dtr.map fun t => (.int t.1, t.2.2))) := (thD.same SH15).but hp.fre b16 p15.lst.choose_spec
      have th2 : ThL K (fun a => H a ≠ none) H16 (.ref L12) (.list (tr.map fun t => t.2)) := ThL.lst fr12 s12 (b16 _ _ nL12p (SH15 _ _ (S14 _ _ (S13 _ _ oL12)))) fun t ht => (thS H16 (B11.trans ((same_but (S1114.trans SH15)).trans b16)) t ht)
      have B16 := (same_but (p := p) (S1114.trans SH15)).trans b16
      rcases (show m0 = 0 ∨ m0 = 1 by omega) with rfl | rfl
      · have ix : atI [V.ref L12, V.ref U6] 0 = some (.ref L12) := rfl
        try walk_at "go"
        exact end_ _ _ H16 B16 th2 (p16.up (by omega))
      · have ix : atI [V.ref L12, V.ref U6] 1 = some (.ref U6) := rfl
        try walk_at "go"
        exact end_ _ _ H16 B16 th1 (p16.up (by omega))
    try walk_at "go"
    intro a0 H12 a1 a2 b12 p12
    obtain ⟨a, rfl⟩ : ∃ a : Nat, a0 = (a : Int) := ⟨a0.toNat, by omega⟩
    have B12 := B11.trans b12
    have hT12 := hTS H12 B12
    have th12 := thS H12 B12
    have ea : (a : Int) + 1 = ((a + 1 : Nat) : Int) := by omega
    have end2 : ∀ (T' : Addr) (tr' : List (V × PyData)) H', Same H12 H' → H' T' = some (.tup (tr'.map fun t => t.1)) → (∀ t ∈ tr', t ∈ tr) → Q (.ref T') H' := fun T' tr' H' S h m => end_ _ _ H' (b12.trans (same_but S)) (ThL.tup h fun t ht => (th12 t (m t ht)).same S) ((PurseAt.same B S p12).up (by omega))
    have lt1 : ∀ n, ((tr.map fun t => t.1).take n).length ≤ 4 := fun n => by rw [List.length_take]; omega
    have lt2 : ∀ n, ((tr.map fun t => t.1).drop n).length ≤ 4 := fun n => by rw [List.length_drop]; omega
    try walk_at "go"
    refine ite2 (fun c5 => ?_) (fun c5 => ?_)
    · try walk_at "go"
      intro A H13 S13 oA
      rw [cut_to] at oA
      have hT13 := S13 _ _ hT12
      try walk_at "go"
      intro C H14 S14 oC
      rw [ea, cut_from] at oC
      have oA14 := S14 _ _ oA
      have lq : ((tr.map fun t => t.1).take a).length + ((tr.map fun t => t.1).drop (a + 1)).length ≤ sizeLine := small (by have := lt1 a; have := lt2 (a + 1); omega)
      try walk_at "go"
      intro T' H15 S15 oT'
      refine end2 T' (tr.take a ++ tr.drop (a + 1)) H15 (S13.trans (S14.trans S15)) (by rw [oT', List.map_append, List.map_take, List.map_drop]) fun t ht => ?_
      rcases List.mem_append.mp ht with ht | ht
      · exact List.mem_of_mem_take ht
      · exact List.mem_of_mem_drop ht
    try walk_at "go"
    refine ite2 (fun c6 => ?_) (fun c6 => ?_)
    · try walk_at "go"
      intro A H13 S13 oA
      rw [cut_to] at oA
      have hT13 := S13 _ _ hT12
      try walk_at "go"
      intro C H14 S14 oC
      have oA14 := S14 _ _ oA
      have lC : (cutV (tr.map fun t => t.1) (some (a : Int)) (some ((a : Int) + 1))).length ≤ 8 := by
        unfold cutV
        rw [List.length_take, List.length_drop]
        omega
      have lq : ((tr.map fun t => t.1).take a).length + (cutV (tr.map fun t => t.1) (some (a : Int)) (some ((a : Int) + 1))).length ≤ sizeLine := small (by have := lt1 a; omega)
      try walk_at "go"
      intro E1 H15 S15 oE1
      have hT15 := S15 _ _ (S14 _ _ hT13)
      try walk_at "go"
      intro F1 H16 S16 oF1
      rw [cut_from] at oF1
      have oE16 := S16 _ _ oE1
      have lq2 : ((tr.map fun t => t.1).take a ++ cutV (tr.map fun t => t.1) (some (a : Int)) (some ((a : Int) + 1))).length + ((tr.map fun t => t.1).drop a).length ≤ sizeLine := small (by rw [List.length_append]; have := lt1 a; have := lt2 a; omega)
      try walk_at "go"
      intro T' H17 S17 oT'
      have ec : cutV (tr.map fun t => t.1) (some (a : Int)) (some ((a : Int) + 1)) = ((tr.drop a).take 1).map fun t => t.1 := by
        rw [ea, cut_midU _ _ (by omega), Nat.add_sub_cancel_left, List.map_take, List.map_drop]
      refine end2 T' (tr.take a ++ (tr.drop a).take 1 ++ tr.drop a) H17 (S13.trans (S14.trans (S15.trans (S16.trans S17)))) (by rw [oT', ec]; simp only [List.map_append, List.map_take, List.map_drop]) fun t ht => ?_
      rcases List.mem_append.mp ht with ht | ht
      · rcases List.mem_append.mp ht with ht | ht
        · exact List.mem_of_mem_take ht
        · exact List.mem_of_mem_drop (List.mem_of_mem_take ht)
      · exact List.mem_of_mem_drop ht
    have putE : ∀ (T' : Addr) (v : V) (d : PyData) (Ha H' : Hp), But p H12 Ha → PurseAt H' p (cap + 5000) → Same Ha H' → ThL K (fun a => H a ≠ none) Ha v d → H' T' = some (.tup ((tr.map fun t => t.1).take a ++ [v] ++ (tr.map fun t => t.1).drop (a + 1))) → Q (.ref T') H' := fun T' v d Ha H' be pe S th h => by
      refine end_ _ (.tuple ((tr.take a ++ [(v, d)] ++ tr.drop (a + 1)).map fun t => t.2)) H' (b12.trans (be.trans (same_but S))) (ThL.tup (by rw [h, List.map_append, List.map_append, List.map_take, List.map_drop] <;> rfl) fun t ht => ?_) pe
      have tk := thS H' (B12.trans (be.trans (same_but S)))
      rcases List.mem_append.mp ht with ht | ht
      · rcases List.mem_append.mp ht with ht | ht
        · exact tk t (List.mem_of_mem_take ht)
        · cases List.mem_singleton.mp ht
          exact th.same S
      · exact tk t (List.mem_of_mem_drop ht)
    try walk_at "go"
    refine ite2 (fun c7 => ?_) (fun c7 => ?_)
    · try walk_at "go"
      intro N1 hN1
      generalize eH13 : upd _ N1 _ = H13
      have SH13 := newS eH13 hN1
      have oN1 := newO eH13
      intro s13
      try walk_at "go"
      intro N2 hN2
      generalize eH14 : upd _ N2 _ = H14
      have SH14 := newS eH14 hN2
      have oN2 := newO eH14
      try walk_at "go"
      intro N3 hN3
      generalize eH15 : upd _ N3 _ = H15
      have SH15 := newS eH15 hN3
      have oN3 := newO eH15
      intro s15
      have p12' : PurseAt H12 p (cap + 192) := p12.up (by omega)
      have p14 := PurseAt.same B (SH13.trans SH14) p12'
      have p15 := PurseAt.same B SH15 p14
      have nN3 : N3 ≠ p := purse_ne B p14 hN3
      have nN1 : N1 ≠ p := purse_ne B p12' hN1
      have fr : ¬ (H N1 ≠ none) := fun z => z (B12.free (purse_ne B p12' hN1) hN1)
      try walk_at "go"
      intro m0 H16 m1 m2 b16 p16
      have S1215 := SH13.trans (SH14.trans SH15)
      have B16 := (same_but (p := p) S1215).trans b16
      have hT16 := hTS H16 (B12.trans B16)
      have oN3' := b16 _ _ nN3 oN3
      have oN1' : H16 N1 = some (.lst []) := b16 _ _ nN1 (SH15 _ _ (SH14 _ _ oN1))
      have oN2' : H16 N2 = some (.tup []) := but_keep b16 p15 _ _ (SH15 _ _ oN2)
      have pE : ∀ (T' : Addr) (v : V) (d : PyData) (H' : Hp), Same H16 H' → ThL K (fun a => H a ≠ none) H16 v d → H' T' = some (.tup ((tr.map fun t => t.1).take a ++ [v] ++ (tr.map fun t => t.1).drop (a + 1))) → Q (.ref T') H' := fun T' v d H' S th h => putE T' v d H16 H' B16 ((PurseAt.same B S p16).up (by omega)) S th h
      have lm20 : (tr.map fun t => t.1).length ≤ 20 := by omega
      have al : a < (tr.map fun t => t.1).length := by omega
      rcases (show m0 = 0 ∨ m0 = 1 ∨ m0 = 2 ∨ m0 = 3 by omega) with rfl | rfl | rfl | rfl
      · have ix : atI [V.non, V.int 1, V.ref N1, V.ref N2] 0 = some .non := rfl
        try walk_at "go"
        intro T' H17 S17 oT'
        exact pE T' _ .none H17 S17 .non oT'
      · have ix : atI [V.non, V.int 1, V.ref N1, V.ref N2] 1 = some (.int 1) := rfl
        try walk_at "go"
        intro T' H17 S17 oT'
        exact pE T' _ (.int 1) H17 S17 (.int 1) oT'
      · have ix : atI [V.non, V.int 1, V.ref N1, V.ref N2] 2 = some (.ref N1) := rfl
        try walk_at "go"
        intro T' H17 S17 oT'
        exact pE T' _ (.list []) H17 S17 (ThL.lst (tr := []) fr s13 oN1' fun t ht => nomatch ht) oT'
      · have ix : atI [V.non, V.int 1, V.ref N1, V.ref N2] 3 = some (.ref N2) := rfl
        try walk_at "go"
        intro T' H17 S17 oT'
        exact pE T' _ (.tuple []) H17 S17 (ThL.tup (tr := []) oN2' fun t ht => nomatch ht) oT'
    obtain ⟨rr, hrr, hrw⟩ := rwb a (by omega)
    have aix : atI (tr.map fun t => t.1) (a : Int) = some (.ref rr) := atI_nat (by rw [List.getElem?_map, hrr] <;> rfl)
    have hrw12 := but_keep B12 hp _ _ hrw
    have rl := row_len (k := k) (s := s) (j := a)
    have rl8 : 2 ^ (k - 1) ≤ 8 := (Nat.pow_le_pow_right (by decide) (by omega) : 2 ^ (k - 1) ≤ 2 ^ 3)
    have rl1 := Nat.two_pow_pos (k - 1)
    have p12' : PurseAt H12 p (cap + 192) := p12.up (by omega)
    try walk_at "go"
    intro v d H13 b13 p13 th13
    have hT13 := hTS H13 (B12.trans b13)
    have lm20 : (tr.map fun t => t.1).length ≤ 20 := by omega
    have al : a < (tr.map fun t => t.1).length := by omega
    have th13' : ThL K (fun a => H a ≠ none) H13 v d := th13.mono fun x hx => by
      cases e : H x with
      | none => exact absurd e hx
      | some o =>
        by_cases xp : x = p
        · rw [xp]; exact p12'.fre
        · rw [B12 _ _ xp e]; exact fun z => by cases z
    try walk_at "go"
    intro T' H14 S14 oT'
    exact putE T' v d H13 H14 b13 ((PurseAt.same B S14 p13).up (by omega)) S14 th13' oT'
/-! SPLIT -/
local macro_rules | `(tactic| walk_at "own") => `(tactic| first | exact L2.ClsV.own _ | exact L2.Dp.int _ | exact L2.Dp.bl _ | exact L2.Dp.non)
/-- a row of numbers, as data -/
def nD (ss : List Nat) : List PyData := (ss.map fun n : Nat => (n : Int)).map PyData.int
omit B in
theorem nV_ints {ss : List Nat} : nV ss = (ss.map fun n : Nat => (n : Int)).map V.int := by unfold nV; rw [List.map_map] <;> rfl
omit B in
theorem nD_tup {K : PySem.W.Frag} {H : Hp} {a : Addr} {ss : List Nat} (h : H a = some (.tup (nV ss))) : Dp K H (.ref a) (.tuple (nD ss)) := tupI_dp (SqT.of (by rw [h, nV_ints]))
omit B in
theorem nD_ly {ss : List Nat} : Ly 1 (.tuple (nD ss)) := .tupI
omit B in
theorem rg_nat {m : Nat} : rgV 0 (m : Int) = ((List.range m).map fun i : Nat => (i : Int)).map V.int := by
  unfold rgV
  rw [List.map_map, show ((m : Int) - 0).toNat = m by omega]
  exact List.map_congr_left fun i _ => congrArg V.int (Int.zero_add _)
/-- what is told of a refusal -/
def refV : List V := [.str "refused", .bl true, .bl true, .bl false, .bl false, .bl false]
def refD : PyData := .list [.str "refused", .bool true, .bool true, .bool false, .bool false, .bool false]
omit B in
theorem ref_dp {K : PySem.W.Frag} {H : Hp} {a : Addr} (h : H a = some (.lst refV)) : Dp K H (.ref a) refD := .lst (SqL.of h) (.cons (.str _) (.cons (.bl _) (.cons (.bl _) (.cons (.bl _) (.cons (.bl _) (.cons (.bl _) .nil))))))
omit B in
theorem la_zero {k : Nat} (hk : k < 5) {s : Nat → Nat → Int} (hs : ∀ j n, j < k → n < 2 ^ (k - 1) → s j n = 0) {h : Nat} (hh : h < 2 ^ k) : ∀ j, j ≤ k → la k s h j = h
  | 0, _ => rfl
  | j + 1, hj => by
    have ni := nwo_in k hk h hh j (by omega)
    have e2 : ((2 ^ (k - 1) : Nat) : Int) = 2 ^ (k - 1) := by push_cast; rfl
    show (stp k (la k s h j : Nat) (j + 1) (s j (nwo k (la k s h j) (j + 1)).toNat)).toNat = h
    rw [la_zero hk hs hh j (by omega), hs j _ (by omega) (by omega), stp_zero k hk h hh j (by omega), Int.toNat_natCast]
omit B in
theorem se_zero {H : Hp} {T : Addr} {k : Nat} {s : Nat → Nat → Int} (h : SeAt H T k s) (g : SeAt H T k fun _ _ => 0) : ∀ j n, j < k → n < 2 ^ (k - 1) → s j n = 0 := fun j n hj hn => by
  obtain ⟨as, h1, h2, h3⟩ := h
  obtain ⟨bs, g1, g2, g3⟩ := g
  rw [h1] at g1
  have e : as = bs := (List.map_inj_right fun a b e => V.ref.inj e).mp (HO.tup.inj (Option.some.inj g1))
  subst e
  have ha : as[j]? = some as[j] := List.getElem?_eq_getElem (by omega)
  have x1 := h3 j _ ha
  rw [g3 j _ ha] at x1
  have x2 := (List.map_inj_right fun a b e => V.int.inj e).mp (HO.tup.inj (Option.some.inj x1))
  have x3 := congrArg (fun l : List Int => l[n]?) x2
  simp only [row_at hn] at x3
  exact (Option.some.inj x3).symm
omit B in
theorem sdl_zero {k : Nat} (hk : k < 5) {s : Nat → Nat → Int} (hs : ∀ j n, j < k → n < 2 ^ (k - 1) → s j n = 0) : sdl k (fun h => la k s h k) = List.range (2 ^ k) := by
  unfold sdl
  have : (List.range (2 ^ k)).map (fun h => la k s h k) = (List.range (2 ^ k)).map id := List.map_congr_left fun h hh => la_zero hk hs (List.mem_range.mp hh) k (Nat.le_refl _)
  rw [this, List.map_id]
omit B in
theorem se_bools {k : Nat} : ∀ (s : Nat → Nat → Int) (j : Nat), ((row k s j).map fun x => decide (x = 1)).length = 2 ^ (k - 1) := fun s j => by rw [List.length_map, row_len]
omit B in
theorem snoc_inv {α : Type} {xs : List α} {y u : α} {m : Nat} (h : (xs ++ [y])[m]? = some u) : xs[m]? = some u ∨ (m = xs.length ∧ u = y) := by
  by_cases c : m < xs.length
  · rw [List.getElem?_append_left c] at h; exact .inl h
  · have l := (List.getElem?_eq_some_iff.mp h).1
    rw [List.length_append, List.length_singleton] at l
    obtain rfl : m = xs.length := by omega
    rw [List.getElem?_append_right (Nat.le_refl _), Nat.sub_self] at h
    exact .inr ⟨rfl, (Option.some.inj h).symm⟩
omit B in
theorem se_is {K : PySem.W.Frag} {H : Hp} {T p : Addr} {k : Nat} {s : Nat → Nat → Int} (h : SeAt H T k s) (hb : Bt s) : ∃ d, Th K p H (.ref T) d ∧ isSe k d = true := by
  obtain ⟨tr, h1, h2, h3, h4⟩ := se_tr h
  refine ⟨_, (ThL.tup h1 (h3 K (fun a => a = p))).th rfl, ?_⟩
  show (decide ((tr.map fun t => t.2).length = k) && (tr.map fun t => t.2).all (isSR k)) = true
  rw [List.length_map, h2, decide_eq_true rfl, Bool.true_and, List.all_eq_true]
  intro d hd
  obtain ⟨t, ht, rfl⟩ := List.mem_map.mp hd
  obtain ⟨j, hj⟩ := List.getElem?_of_mem ht
  have jk : j < k := by have := (List.getElem?_eq_some_iff.mp hj).1; omega
  obtain ⟨r, h5, _⟩ := h4 j jk
  rw [h5] at hj
  cases hj
  show (decide (((row k s j).map PyData.int).length = 2 ^ (k - 1)) && ((row k s j).map PyData.int).all fun d => isR d 0 1) = true
  rw [List.length_map, row_len, decide_eq_true rfl, Bool.true_and, List.all_eq_true]
  intro d hd
  obtain ⟨x, hx, rfl⟩ := List.mem_map.mp hd
  unfold row at hx
  obtain ⟨n, _, rfl⟩ := List.mem_map.mp hx
  rcases hb j n with e | e <;> rw [e] <;> rfl
omit B in
theorem rep_sum {n : Nat} : (List.replicate n (0 : Int)).sum = 0 := by
  induction n with
  | zero => rfl
  | succ n ih => rw [List.replicate_succ, List.sum_cons, ih] <;> rfl
omit B in
theorem row_zero {k j : Nat} : (row k (fun _ _ => 0) j).sum = 0 := by
  have : row k (fun _ _ => 0) j = List.replicate (2 ^ (k - 1)) 0 := by
    unfold row
    exact List.ext_getElem? fun i => by
      rw [List.getElem?_map]
      by_cases c : i < 2 ^ (k - 1)
      · rw [List.getElem?_range c, List.getElem?_replicate, if_pos c] <;> rfl
      · rw [List.getElem?_eq_none (by rw [List.length_range]; omega), List.getElem?_eq_none (by rw [List.length_replicate]; omega)] <;> rfl
  rw [this, rep_sum]
def spLon (K : PySem.W.Frag) : Sp := fun vs H Q _ => ∃ (v : V) (d : PyData) (p : Addr) (k : Nat), vs = [.int k, v] ∧ k ≤ 4 ∧ Th K p H v d ∧ (isSe k d = true → ∀ T s, v = .ref T → SeAt H T k s → Bt s → ∀ U H', Same H H' → H' U = some (.tup (nV (sdl k fun h => la k s h k))) → Q (.ref U) H') ∧ (isSe k d = false → ∀ L H', Same H H' → H' L = some (.lst refV) → Q (.ref L) H')
theorem k__law_led_or_not (D : Df K mg "_law_led_or_not" s__law_led_or_not ["_law_k", "_law_thing"]) (D_led : Dx P w K mg base 6 "led" ["k", "settings"] (spLedT K (cAt mg "NoSettings"))) (D__law_is_number : Dn P w K mg base 1 "_law_is_number" ["_law_thing"] (spWhT4 K)) : Dn P w K mg base 7 "_law_led_or_not" ["_law_k", "_law_thing"] (spLon K) := by
  refine D.ok fun f fd F => okG0 F sc__law_led_or_not (fun vs H Q E h => ?_) (fun cdv A outer s H vs Q E hr h => ⟨_, (pss_cons (ps_set (i := 2) sc__law_led_or_not.nd rfl (Or.inl rfl) pe_non)
    (pss_cons (ps_try_as (i := 3) rfl rfl sc__law_led_or_not.nd rfl rfl ⟨rfl, by decide, .inl B.AskError_.mg_⟩ takes0 (fun W pn xe tk po => (pss_one (ps_set (i := 2) sc__law_led_or_not.nd rfl (Or.inl rfl) (pe_cW D_led (hr.less (by decide)) tk rfl (pa_cons (pv 0) (pa_cons (pv 1) pa_nil))))))
      (fun a oe cls d pn hz hf => (pss_cons (ps_set (i := 4) sc__law_led_or_not.nd rfl (Or.inl rfl) (pe_lst (pa_cons (pe_callB (call_isX hz hf) (by rfl) B.isinstance_ (by decide +kernel) (pa_cons (pv 3) (pa_cons (pe_glob (v := .ref (cAt mg "NoNet")) (u := .ref (cAt mg "NoNet")) (by rfl) B.NoNet_.mg_ rfl) pa_nil))) (pa_cons (pe_callB (call_isX hz hf) (by rfl) B.isinstance_ (by decide +kernel) (pa_cons (pv 3) (pa_cons (pe_glob (v := .ref (cAt mg "NoHand")) (u := .ref (cAt mg "NoHand")) (by rfl) B.NoHand_.mg_ rfl) pa_nil))) (pa_cons (pe_callB (call_isX hz hf) (by rfl) B.isinstance_ (by decide +kernel) (pa_cons (pv 3) (pa_cons (pe_glob (v := .ref (cAt mg "NoSide")) (u := .ref (cAt mg "NoSide")) (by rfl) B.NoSide_.mg_ rfl) pa_nil))) pa_nil)))))
      (pss_one (ps_ret (pe_op op_cat (pe_lst (pa_cons pe_str (pa_cons (pe_callB (call_isX hz hf) (by rfl) B.isinstance_ (by decide +kernel) (pa_cons (pv 3) (pa_cons (pe_glob (v := .ref (cAt mg "NoSettings")) (u := .ref (cAt mg "NoSettings")) (by rfl) B.NoSettings_.mg_ rfl) pa_nil))) (pa_cons (pe_callB (call_isX hz hf) (by rfl) B.isinstance_ (by decide +kernel) (pa_cons (pv 3) (pa_cons (pe_bltn (v := .ty "ValueError") (u := .type "ValueError") (by rfl) B.ValueError_ (by decide +kernel) rfl) pa_nil))) pa_nil)))) (pv 4)))))))
    (pss_cons (ps_if (PW.pt (pw_or (pt_not (pt_val (pe_callB (kk (K := K) (F := rIsi) (P := CallR _ _) call_isi) (by rfl) B.isinstance_ (by decide +kernel) (pa_cons (pv 2) (pa_cons (pe_bltn (v := .ty "tuple") (u := .type "tuple") (by rfl) B.tuple_ (by decide +kernel) rfl) pa_nil))))) (pw_or1 (pt_not (pt_val (pe_callB (kk (K := K) (F := rAll) (P := CallR _ _) (cr_all rfl)) (by rfl) B.all_ (by decide +kernel) (pa_cons (pe_lc (own := [("_law_one", 5)]) (g := gName 5) (tt := tYes) rfl sc__law_led_or_not.nd (kk (K := K) (F := fun K => iTup K _) (P := PI _ _ _) (pi_tup (pv 2))) (blkOk_by (own := [("_law_one", 5)]) (N := ["_law_k", "_law_thing", "_law_found", "e", "_law_others", "_law_one"]) (sc := defScope s__law_led_or_not) (by decide +kernel)) (fun _ _ _ _ _ => (pg_name (i := 5) sc__law_led_or_not.nd rfl (Or.inl rfl))) (fun _ _ _ _ _ => pts_nil) (fun _ _ _ _ _ => (pe_cD D__law_is_number (hr.less (by decide)) rfl (pa_cons (pv 5) pa_nil)))) pa_nil)))))))
      (pss_one (ps_ret pe_str))
      pss_nil)
    (pss_one (ps_ret (pv 2)))))), ?_⟩)
  · obtain ⟨v, d, p, k, rfl, _⟩ := h; rfl
  · obtain ⟨v, d, p, k, rfl, hk, hd, q1, q2⟩ := h
    have e1 : PySem.W.exmOne K (.ref (cAt mg "NoSettings")) (.ref (cAt mg "AskError")) = some true := exm_of B.AskError_ B.NoSettings_AskError_
    try walk_at "go"
    refine ⟨fun e T s ev hS hb U H1 S1 oU => ?_, fun e H1 S1 => ?_⟩
    · replace q1 := q1 e T s ev hS hb
      have ll : (nV (sdl k fun h => la k s h k)).length ≤ 16 := by
        have e16 : 2 ^ k ≤ 16 := (Nat.pow_le_pow_right (by decide) hk : 2 ^ k ≤ 2 ^ 4)
        unfold nV sdl; rw [List.length_map, List.length_map, List.length_range]; omega
      try walk_at "go"
      intro D hD
      have oU' : H1 U = some (.tup ((sdl k fun h => la k s h k).map fun n => V.int (n : Nat))) := oU
      refine lc_tup (K := K) (a := U) (xs := nV (sdl k fun h => la k s h k)) (fun i H' => Kept (Same H1 H' ∧ H' D = some (.lst ((List.replicate i true).map V.bl)))) ⟨⟨same_new hD _, upd_same⟩⟩ (fun i H' _ h => SqT.of (h.ex.1 _ _ oU)) ?_ ?_
      · rintro i x H2 hx ⟨S2, hD2⟩
        have il := (List.getElem?_eq_some_iff.mp hx).1
        obtain ⟨n, rfl⟩ : ∃ n : Nat, x = .int n := by
          unfold nV at hx
          rw [List.getElem?_map] at hx
          obtain ⟨n, _, rfl⟩ := Option.map_eq_some_iff.mp hx
          exact ⟨n, rfl⟩
        have lr : ((List.replicate i true).map V.bl).length ≤ 16 := by rw [List.length_map, List.length_replicate]; omega
        have th : Th K p H2 (.int (n : Nat)) (.int (n : Nat)) := .int _
        try walk_at "go"
        exact ⟨⟨but_same hD S2 But.upd, by rw [upd_same, List.replicate_succ', List.map_append] <;> rfl⟩⟩
      · rintro H2 ⟨S2, hD2⟩
        have oU2 := S2 _ _ oU
        try walk_at "go"
        rw [show ∀ n, (List.replicate n true).all id = true from fun n => List.all_eq_true.mpr fun x hx => (List.mem_replicate.mp hx).2] 
        try walk_at "go"
        exact q1 _ _ (S1.trans S2) oU2
    · refine ⟨true, e1, fun _ x hx => ?_, fun z => by cases z⟩
      have k_NoNet := kitO B.NoNet_ B.NoSettings_NoSettings_ B.NoSettings_NoNet_
      have k_NoHand := kitO B.NoHand_ B.NoSettings_NoSettings_ B.NoSettings_NoHand_
      have k_NoSide := kitO B.NoSide_ B.NoSettings_NoSettings_ B.NoSettings_NoSide_
      have k_NoSettings := kitO B.NoSettings_ B.NoSettings_NoSettings_ B.NoSettings_NoSettings_
      have kv := kitVE B.NoSettings_i
      have kc := B.NoSettings_i.c
      try walk_at "go"
      intro M hM
      generalize eH2 : upd _ M _ = H2
      have SH2 := newS eH2 hM
      have oM := newO eH2
      try walk_at "go"
      intro M2 hM2
      generalize eH3 : upd _ M2 _ = H3
      have SH3 := newS eH3 hM2
      have oM2 := newO eH3
      have oM13 := SH3 _ _ oM
      try walk_at "go"
      intro M3 hM3
      generalize eH4 : upd _ M3 _ = H4
      have SH4 := newS eH4 hM3
      have oM3 := newO eH4
      exact q2 e _ _ (S1.trans (SH2.trans (SH3.trans SH4))) oM3
def spRightB (K : PySem.W.Frag) : Sp := fun vs H Q _ => ∃ (v : V) (d : PyData) (p : Addr) (k : Nat), vs = [.int k, v] ∧ k ≤ 4 ∧ Th K p H v d ∧ ∀ H', Same H H' → Q (.bl true) H'
theorem k__law_right (D : Df K mg "_law_right" s__law_right ["_law_k", "_law_thing"]) (D_is_settings : Dn P w K mg base 4 "is_settings" ["k", "thing"] (spIST K)) (D__law_are_good : Dn P w K mg base 3 "_law_are_good" ["_law_k", "_law_thing"] (spAG K)) (D__law_led_or_not : Dn P w K mg base 7 "_law_led_or_not" ["_law_k", "_law_thing"] (spLon K)) (D__law_led : Dn P w K mg base 4 "_law_led" ["_law_k", "_law_settings_here"] (spLedL K)) : Dn P w K mg base 8 "_law_right" ["_law_k", "_law_thing"] (spRightB K) := by
  refine D.ok fun f fd F => okG0 F sc__law_right (fun vs H Q E h => ?_) (fun cdv A outer s H vs Q E hr h => ⟨_, (pss_cons (ps_set (i := 2) sc__law_right.nd rfl (Or.inl rfl) (pe_cD D__law_are_good (hr.less (by decide)) rfl (pa_cons (pv 0) (pa_cons (pv 1) pa_nil))))
    (pss_cons (ps_set (i := 3) sc__law_right.nd rfl (Or.inl rfl) (pe_cD D_is_settings (hr.less (by decide)) rfl (pa_cons (pv 0) (pa_cons (pv 1) pa_nil))))
    (pss_cons (ps_if (PW.pt (pw_or (pt_not (pt_val (pe_callB (kk (K := K) (F := rIsi) (P := CallR _ _) call_isi) (by rfl) B.isinstance_ (by decide +kernel) (pa_cons (pv 3) (pa_cons (pe_bltn (v := .ty "bool") (u := .type "bool") (by rfl) B.bool_ (by decide +kernel) rfl) pa_nil))))) (pw_or1 (pt_cmpR op_ne (pv 3) (pv 2) (nomark _)))))
      (pss_one (ps_ret pe_bl))
      pss_nil)
    (pss_cons (ps_if (pt_val (pv 2))
      (pss_one (ps_ret (pe_cmpR (kk (K := K) (F := rEqD) (P := OpR _ _) (op_eqD hr.units)) (pe_cD D__law_led_or_not (hr.less (by decide)) rfl (pa_cons (pv 0) (pa_cons (pv 1) pa_nil))) (pe_cD D__law_led (hr.less (by decide)) rfl (pa_cons (pv 0) (pa_cons (pv 1) pa_nil))) (nomark _))))
      pss_nil)
    (pss_one (ps_ret (pe_cmpR (kk (K := K) (F := rEqD) (P := OpR _ _) (op_eqD hr.units)) (pe_cD D__law_led_or_not (hr.less (by decide)) rfl (pa_cons (pv 0) (pa_cons (pv 1) pa_nil))) (pe_lst (pa_cons pe_str (pa_cons pe_bl (pa_cons pe_bl (pa_cons pe_bl (pa_cons pe_bl (pa_cons pe_bl pa_nil))))))) (nomark _)))))))), ?_⟩)
  · obtain ⟨v, d, p, k, rfl, _⟩ := h; rfl
  · obtain ⟨v, d, p, k, rfl, hk, hd, q⟩ := h
    try walk_at "go"
    intro H1 S1
    have hd1 := hd.same S1
    try walk_at "go"
    intro H2 S2
    have hd2 := hd1.same S2
    have S02 := S1.trans S2
    cases e : isSe k d with
    | true =>
      obtain ⟨T, s, rfl, hS, hb⟩ := se_of hd2 e
      try walk_at "go"
      refine ⟨fun _ T' s' eT hS' hb' U H3 S3 oU => ?_, fun z => absurd (e.symm.trans z) (by decide)⟩
      cases eT
      have hS3 := hS'.same S3
      try walk_at "go"
      intro U2 H4 S4 oU2
      have d1 : Dp K H4 (.ref U) _ := nD_tup (S4 _ _ oU)
      have d2 : Dp K H4 (.ref U2) _ := nD_tup oU2
      have s1 := (nD_ly (ss := sdl k fun h => la k s' h k)).sh
      try walk_at "go"
      rw [(nD_ly (ss := sdl k fun h => la k s' h k)).refl]
      exact q _ (S02.trans (S3.trans S4))
    | false =>
      try walk_at "go"
      refine ⟨fun z => absurd (e.symm.trans z) (by decide), fun _ L1 H3 S3 oL1 => ?_⟩
      try walk_at "go"
      intro M1 hM1
      generalize eH4 : upd _ M1 _ = H4
      have SH4 := newS eH4 hM1
      have oM1 := newO eH4
      have d1 : Dp K H4 (.ref L1) _ := ref_dp (SH4 _ _ oL1)
      have d2 : Dp K H4 (.ref M1) _ := ref_dp oM1
      have s1 : SeqAt.shaped refD = true := by decide +kernel
      try walk_at "go"
      exact q _ (S02.trans (S3.trans SH4))
/-! SPLIT -/
def spLaw (K : PySem.W.Frag) : Sp := fun vs H Q _ => ∃ (a : Addr) (ns : List Int), vs = [.ref a] ∧ SqL K H a (ns.map V.int) ∧ ns.length ≤ 63 ∧ ∀ H', Q (.bl true) H'
theorem k_law {f : Addr} {fd : FuncData} (F : Fun K "law" "law" s_law f fd) (D__law_purse : Dn P w K mg base 1 "_law_purse" ["_law_script", "_law_k"] (spPurse K)) (D__law_take : Dn P w K mg base 2 "_law_take" ["_law_purse_here", "_law_many"] (spTakeP K)) (D__law_settings : Dn P w K mg base 3 "_law_settings" ["_law_purse_here", "_law_k"] (spSettS K)) (D__law_right : Dn P w K mg base 8 "_law_right" ["_law_k", "_law_thing"] (spRightB K)) (D__law_otherwise : Dn P w K mg base 4 "_law_otherwise" ["_law_purse_here", "_law_k", "_law_settings_here"] (spOther K)) (D_straight : Dn P w K mg base 4 "straight" ["k"] (spStr K)) (D__law_are_good : Dn P w K mg base 3 "_law_are_good" ["_law_k", "_law_thing"] (spAG K)) (D__law_led_or_not : Dn P w K mg base 7 "_law_led_or_not" ["_law_k", "_law_thing"] (spLon K)) : FnG P w K mg base CX0 9 f fd ["_law_script"] (spLaw K) := by
  refine okG0 F sc_law (fun vs H Q E h => ?_) (fun cdv A outer s H vs Q E hr h => ⟨_, (pss_cons (ps_for PassesOwn.never rfl (pi_range1 (by rfl) B.range_ (pa_cons (pe_callB (call_max2 rfl) (by rfl) B.max_ (by decide +kernel) (pa_cons pe_int (pa_cons (pe_callB (call_min2 rfl) (by rfl) B.min_ (by decide +kernel) (pa_cons pe_int (pa_cons (pe_callB (lenK (K := K)) (by rfl) B.len_ (by decide +kernel) (pa_cons (pv 0) pa_nil)) pa_nil))) pa_nil))) pa_nil)) (pg_name (i := 1) sc_law.nd rfl (Or.inl rfl))
      (pss_cons (ps_set (i := 2) sc_law.nd rfl (Or.inl rfl) (pe_cD D__law_purse (hr.less (by decide)) rfl (pa_cons (pv 0) (pa_cons (pv 1) pa_nil))))
      (pss_cons (ps_set (i := 3) sc_law.nd rfl (Or.inr rfl) (pe_cD D__law_take (hr.less (by decide)) rfl (pa_cons (pv 2) (pa_cons pe_int pa_nil))))
      (pss_cons (ps_set (i := 4) sc_law.nd rfl (Or.inl rfl) (pe_cD D__law_settings (hr.less (by decide)) rfl (pa_cons (pv 2) (pa_cons (pv 3) pa_nil))))
      (pss_cons (ps_set (i := 5) sc_law.nd rfl (Or.inl rfl) (pe_op op_add pe_int (pe_cD D__law_take (hr.less (by decide)) rfl (pa_cons (pv 2) (pa_cons pe_int pa_nil)))))
      (pss_cons (ps_set (i := 6) sc_law.nd rfl (Or.inl rfl) (pe_callTy (tupOfK (K := K)) (by rfl) B.tuple_ (by decide +kernel) (pa_cons (pe_lc (own := [("_law_row", 9)]) (g := gName 9) (tt := tYes) rfl sc_law.nd (kk (K := K) (F := fun K => iTup K _) (P := PI _ _ _) (pi_tup (pv 4))) (blkOk_by (own := [("_law_row", 9)]) (N := ["_law_script", "_law_cell", "_law_purse_here", "_law_k", "_law_settings_here", "_law_many", "_law_truths", "_law_turn", "_law_plain", "_law_row", "_law_one", "_law_thing"]) (sc := defScope s_law) (by decide +kernel)) (fun _ _ _ _ _ => (pg_name (i := 9) sc_law.nd rfl (Or.inl rfl))) (fun _ _ _ _ _ => pts_nil) (fun _ _ _ _ _ => (pe_callTy (tupOfK (K := K)) (by rfl) B.tuple_ (by decide +kernel) (pa_cons (pe_lc (own := [("_law_one", 10)]) (g := gName 10) (tt := tYes) rfl sc_law.nd (kk (K := K) (F := fun K => iTup K _) (P := PI _ _ _) (pi_tup (pv 9))) (blkOk_nest (own := [("_law_one", 10)]) (N := ["_law_script", "_law_cell", "_law_purse_here", "_law_k", "_law_settings_here", "_law_many", "_law_truths", "_law_turn", "_law_plain", "_law_row", "_law_one", "_law_thing"]) rfl (by decide +kernel)) (fun _ _ _ _ _ => (pg_name (i := 10) sc_law.nd rfl (Or.inl rfl))) (fun _ _ _ _ _ => pts_nil) (fun _ _ _ _ _ => (pe_cmpR op_eq (pv 10) pe_int (nomark _)))) pa_nil)))) pa_nil)))
      (pss_cons (ps_if (pt_not (pt_val (pe_callB (kk (K := K) (F := rAll) (P := CallR _ _) (cr_all rfl)) (by rfl) B.all_ (by decide +kernel) (pa_cons (pe_lc (own := [("_law_thing", 11)]) (g := gName 11) (tt := tYes) rfl sc_law.nd (kk (K := K) (F := fun K => iTup K _) (P := PI _ _ _) (pi_tup (pe_tup (pa_cons (pv 4) (pa_cons (pv 6) (pa_cons (pv 4) pa_nil)))))) (blkOk_by (own := [("_law_thing", 11)]) (N := ["_law_script", "_law_cell", "_law_purse_here", "_law_k", "_law_settings_here", "_law_many", "_law_truths", "_law_turn", "_law_plain", "_law_row", "_law_one", "_law_thing"]) (sc := defScope s_law) (by decide +kernel)) (fun _ _ _ _ _ => (pg_name (i := 11) sc_law.nd rfl (Or.inl rfl))) (fun _ _ _ _ _ => pts_nil) (fun _ _ _ _ _ => (pe_cD D__law_right (hr.less (by decide)) rfl (pa_cons (pv 3) (pa_cons (pv 11) pa_nil))))) pa_nil))))
        (pss_one (ps_ret pe_bl))
        pss_nil)
      (pss_cons (ps_for PassesOwn.never rfl (pi_range1 (by rfl) B.range_ (pa_cons (pv 5) pa_nil)) (pg_name (i := 7) sc_law.nd rfl (Or.inl rfl))
        (pss_one (ps_if (pt_not (pt_val (pe_cD D__law_right (hr.less (by decide)) rfl (pa_cons (pv 3) (pa_cons (pe_cD D__law_otherwise (hr.less (by decide)) rfl (pa_cons (pv 2) (pa_cons (pv 3) (pa_cons (pv 4) pa_nil)))) pa_nil)))))
         (pss_one (ps_ret pe_bl))
         pss_nil)))
      (pss_cons (ps_set (i := 8) sc_law.nd rfl (Or.inl rfl) (pe_cD D_straight (hr.less (by decide)) rfl (pa_cons (pv 3) pa_nil)))
      (pss_cons (ps_if (PW.pt (pw_or (pt_not (pt_val (pe_cD D__law_are_good (hr.less (by decide)) rfl (pa_cons (pv 3) (pa_cons (pv 8) pa_nil))))) (pw_or1 (pt_cmpR op_ne (pe_callB (kk (K := K) (F := rSum) (P := CallR _ _) (cr_sum rfl)) (by rfl) B.sum_ (by decide +kernel) (pa_cons (pe_lc (own := [("_law_row", 9)]) (g := gName 9) (tt := tYes) rfl sc_law.nd (kk (K := K) (F := fun K => iTup K _) (P := PI _ _ _) (pi_tup (pv 8))) (blkOk_by (own := [("_law_row", 9)]) (N := ["_law_script", "_law_cell", "_law_purse_here", "_law_k", "_law_settings_here", "_law_many", "_law_truths", "_law_turn", "_law_plain", "_law_row", "_law_one", "_law_thing"]) (sc := defScope s_law) (by decide +kernel)) (fun _ _ _ _ _ => (pg_name (i := 9) sc_law.nd rfl (Or.inl rfl))) (fun _ _ _ _ _ => pts_nil) (fun _ _ _ _ _ => (pe_callB (kk (K := K) (F := rSumT) (P := CallR _ _) (cr_sumT rfl)) (by rfl) B.sum_ (by decide +kernel) (pa_cons (pv 9) pa_nil)))) pa_nil)) pe_int (nomark _)))))
        (pss_one (ps_ret pe_bl))
        pss_nil)
      (pss_one (ps_if (pt_cmpR (kk (K := K) (F := rNeD) (P := OpR _ _) (op_neD hr.units)) (pe_cD D__law_led_or_not (hr.less (by decide)) rfl (pa_cons (pv 3) (pa_cons (pv 8) pa_nil))) (pe_tupRg rfl (by rfl) B.tuple_ (prg_1 rfl B.range_ (pe_op op_shlW pe_int (pv 3)))) (nomark _))
       (pss_one (ps_ret pe_bl))
       pss_nil))))))))))))
    (pss_one (ps_ret pe_bl))), ?_⟩)
  · obtain ⟨a, ns, rfl, _⟩ := h; rfl
  · obtain ⟨a, ns, rfl, hS, hl, q⟩ := h
    try walk_at "go"
    have hN : (if (if (((ns.map V.int).length : Nat) : Int) < 6 then (((ns.map V.int).length : Nat) : Int) else 6) > 1 then (if (((ns.map V.int).length : Nat) : Int) < 6 then (((ns.map V.int).length : Nat) : Int) else 6) else 1).toNat ≤ 8 := by split <;> split <;> omega
    generalize (if (if (((ns.map V.int).length : Nat) : Int) < 6 then (((ns.map V.int).length : Nat) : Int) else 6) > 1 then (if (((ns.map V.int).length : Nat) : Int) < 6 then (((ns.map V.int).length : Nat) : Int) else 6) else 1).toNat = n at hN ⊢
    refine for_range (lo := 0) (n := n) (fun i σ H2 => Kept (∃ v1 v2 v3 v4 v5 v6 v7 v8 v9 v10 v11 : Option V, σ = [some (.ref a), v1, v2, v3, v4, v5, v6, v7, v8, v9, v10, v11] ∧ Same H H2)) ⟨_, _, _, _, _, _, _, _, _, _, _, rfl, Same.refl H⟩ ?_ ?_
    · rintro i σ H2 hi ⟨v1, v2, v3, v4, v5, v6, v7, v8, v9, v10, v11, rfl, S2⟩
      rw [Int.zero_add]
      try walk_at "go"
      intro p H3 np S3 p3
      try walk_at "go"
      intro d H4 d0 d4 b4 p4
      obtain ⟨k, rfl⟩ : ∃ k : Nat, d = (k : Int) := ⟨d.toNat, by omega⟩
      have hk : k ≤ 4 := by omega
      try walk_at "go"
      intro T s H5 b5 p5 hT hb
      have S5 : Same H2 H5 := but_same np S3 (b4.trans b5)
      try walk_at "go"
      intro m H6 m0 m1 b6 p6
      have S6 : Same H2 H6 := but_same np S3 (b4.trans (b5.trans b6))
      have hT6 := hT.keep (but_keep b6 p5)
      obtain ⟨as, h1, h2, h3⟩ := hT6
      have hT6 : SeAt H6 T k s := ⟨as, h1, h2, h3⟩
      try walk_at "go"
      intro D hD
      refine lc_tup (K := K) (a := T) (xs := as.map V.ref) (fun i H' => Kept (∃ us : List Addr, Same H6 H' ∧ H' D = some (.lst (us.map V.ref)) ∧ us.length = i ∧ ∀ (j : Nat) (u : Addr), us[j]? = some u → H' u = some (.tup (((row k s j).map fun x => decide (x = 1)).map V.bl)))) ⟨⟨[], same_new hD _, upd_same, rfl, fun j u h => by simp at h⟩⟩ (fun i H' _ h => by obtain ⟨us, S, _⟩ := h.ex; exact SqT.of (S _ _ h1)) ?_ ?_
      · rintro j x H7 hx ⟨us, S7, oD, lu, hu⟩
        rw [List.getElem?_map] at hx
        obtain ⟨r, hr, rfl⟩ := Option.map_eq_some_iff.mp hx
        have hr7 := S7 _ _ (h3 j r hr)
        have jk : j < k := by have := (List.getElem?_eq_some_iff.mp hr).1; omega
        have lul : (us.map V.ref).length ≤ 16 := by rw [List.length_map]; omega
        have rl8 : 2 ^ (k - 1) ≤ 8 := (Nat.pow_le_pow_right (by decide) (by omega) : 2 ^ (k - 1) ≤ 2 ^ 3)
        have rl := row_len (k := k) (s := s) (j := j)
        try walk_at "go"
        intro E hE
        refine lc_tup (K := K) (a := r) (xs := (row k s j).map V.int) (fun i H' => Kept (Same H7 H' ∧ H' E = some (.lst ((((row k s j).map fun x => decide (x = 1)).take i).map V.bl)))) ⟨⟨same_new hE _, upd_same⟩⟩ (fun i H' _ h => SqT.of (h.ex.1 _ _ hr7)) ?_ ?_
        · rintro n x H8 hx ⟨S8, oE⟩
          rw [List.getElem?_map] at hx
          obtain ⟨x, hx2, rfl⟩ := Option.map_eq_some_iff.mp hx
          have ln : ((((row k s j).map fun x => decide (x = 1)).take n).map V.bl).length ≤ 16 := by rw [List.length_map, List.length_take, List.length_map]; omega
          have ed : decide (V.int x = V.int 1) = decide (x = 1) := by
            by_cases c : x = 1
            · rw [c, decide_eq_true rfl, decide_eq_true rfl]
            · rw [decide_eq_false c, decide_eq_false fun z => c (V.int.inj z)]
          try walk_at "go"
          rw [ed]
          exact ⟨⟨but_same hE S8 But.upd, by rw [upd_same, List.take_succ, List.getElem?_map, hx2, List.map_append] <;> rfl⟩⟩
        · rintro H8 ⟨S8, oE⟩
          rw [List.length_map, rl, show 2 ^ (k - 1) = ((row k s j).map fun x => decide (x = 1)).length by rw [List.length_map, rl], List.take_length] at oE
          try walk_at "go"
          intro U hU
          generalize eH9 : upd _ U _ = H9
          have SH9 := newS eH9 hU
          have oU := newO eH9
          have S79 := S8.trans SH9
          have oD9 := S79 _ _ oD
          try walk_at "go"
          have nD : ∀ u, (∃ ys, H9 u = some (.tup ys)) → u ≠ D := fun u ⟨ys, h⟩ z => by rw [z, oD9] at h; cases h
          refine ⟨⟨us ++ [U], but_same hD (S7.trans S79) But.upd, by rw [upd_same, List.map_append] <;> rfl, by rw [List.length_append, lu] <;> rfl, fun m u hm => ?_⟩⟩
          rcases snoc_inv hm with hm | ⟨e1, rfl⟩
          · have := S79 _ _ (hu m u hm)
            rw [upd_ne (nD u ⟨_, this⟩)]; exact this
          · rw [upd_ne (nD _ ⟨_, oU⟩), e1, lu]; exact oU
      rintro H7 ⟨us, S7, oD, lu, hu⟩
      try walk_at "go"
      intro TT hTT
      generalize eH8 : upd _ TT _ = H8
      have SH8 := newS eH8 hTT
      have oTT := newO eH8
      have S68 := S7.trans SH8
      have hu8 : ∀ (j : Nat) (u : Addr), us[j]? = some u → H8 u = some (.tup (((row k s j).map fun x => decide (x = 1)).map V.bl)) := fun j u h => SH8 _ _ (hu j u h)
      have hT8 := hT6.same S68
      have thT0 : ∀ H' (T : Addr) (s : Nat → Nat → Int), SeAt H' T k s → ∃ d, Th K p H' (.ref T) d := fun H' T s h => by
        obtain ⟨tr, hT, _, th, _⟩ := se_tr h
        exact ⟨_, (ThL.tup hT (th K (fun a => a = p))).th rfl⟩
      have thT := fun H' => thT0 H' T s
      have thTT : ∃ d, Th K p H8 (.ref TT) d := by
        let tr : List (V × PyData) := (List.range us.length).map fun j => (V.ref (us.getD j 0), .tuple (((row k s j).map fun x => decide (x = 1)).map PyData.bool))
        refine ⟨.tuple (tr.map fun t => t.2), .tup (tr := tr) ?_ fun t ht => ?_⟩
        · rw [oTT]
          congr 2
          refine List.ext_getElem? fun j => ?_
          simp only [tr, List.getElem?_map]
          by_cases c : j < us.length
          · rw [List.getElem?_range c, List.getElem?_eq_getElem c]
            show some (V.ref _) = some (V.ref (us.getD j 0))
            rw [List.getD_eq_getElem?_getD, List.getElem?_eq_getElem c] <;> rfl
          · rw [List.getElem?_eq_none (by omega), List.getElem?_eq_none (by rw [List.length_range]; omega)] <;> rfl
        · obtain ⟨j, hj, rfl⟩ := List.mem_map.mp ht
          have c := List.mem_range.mp hj
          have e : us[j]? = some (us.getD j 0) := by rw [List.getD_eq_getElem?_getD, List.getElem?_eq_getElem c] <;> rfl
          let tb : List (V × PyData) := ((row k s j).map fun x => decide (x = 1)).map fun b => (V.bl b, PyData.bool b)
          have e1 : ((row k s j).map fun x => decide (x = 1)).map V.bl = tb.map fun t => t.1 := by simp only [tb, List.map_map]; rfl
          have e2 : ((row k s j).map fun x => decide (x = 1)).map PyData.bool = tb.map fun t => t.2 := by simp only [tb, List.map_map]; rfl
          show Th K p H8 (V.ref (us.getD j 0)) (.tuple (((row k s j).map fun x => decide (x = 1)).map PyData.bool))
          rw [e2]
          refine .tup (by rw [hu8 j _ e, e1]) fun t ht => ?_
          obtain ⟨b, _, rfl⟩ := List.mem_map.mp ht
          exact .bl b
      try walk_at "go"
      intro TP hTP
      generalize eH9 : upd _ TP _ = H9
      have SH9 := newS eH9 hTP
      have oTP := newO eH9
      have p9 := PurseAt.same B (S68.trans SH9) p6
      have hT9 := hT8.same SH9
      have thTT9 : ∃ d, Th K p H9 (.ref TT) d := by
        obtain ⟨d, th⟩ := thTT
        exact ⟨d, th.same SH9⟩
      try walk_at "go"
      intro D2 hD2
      refine lc_tup (K := K) (a := TP) (xs := [V.ref T, V.ref TT, V.ref T]) (fun i H' => Kept (Same H9 H' ∧ H' D2 = some (.lst ((List.replicate i true).map V.bl)))) ⟨⟨same_new hD2 _, upd_same⟩⟩ (fun i H' _ h => SqT.of (h.ex.1 _ _ oTP)) ?_ ?_
      · rintro j x H10 hx ⟨S10, oD2⟩
        have j3 := (List.getElem?_eq_some_iff.mp hx).1
        have j3 : j < 3 := j3
        obtain ⟨d, th⟩ : ∃ d, Th K p H10 x d := by
          have hm : x = .ref T ∨ x = .ref TT := by
            have := List.mem_of_getElem? hx
            simp only [List.mem_cons, List.not_mem_nil, or_false] at this
            rcases this with h | h | h
            · exact .inl h
            · exact .inr h
            · exact .inl h
          rcases hm with rfl | rfl
          · exact thT H10 (hT9.same S10)
          · obtain ⟨d, th⟩ := thTT9
            exact ⟨d, th.same S10⟩
        have lr : ((List.replicate j true).map V.bl).length ≤ 16 := by rw [List.length_map, List.length_replicate]; omega
        try walk_at "go"
        intro H11 S11
        have oD11 := S11 _ _ oD2
        try walk_at "go"
        exact ⟨⟨but_same hD2 (S10.trans S11) But.upd, by rw [upd_same, List.replicate_succ', List.map_append] <;> rfl⟩⟩
      rintro H10 ⟨S10, oD2⟩
      have S610 := S68.trans (SH9.trans S10)
      have p10 := PurseAt.same B S610 p6
      have hT10 := hT6.same S610
      try walk_at "go"
      refine for_range (lo := 0) (n := (1 + m).toNat) (fun j σ H' => Kept (∃ w : Option V, σ = [some (.ref a), some (.int (i : Nat)), some (.ref p), some (.int (k : Nat)), some (.ref T), some (.int (1 + m)), some (.ref TT), w, v8, v9, v10, v11] ∧ But p H10 H' ∧ PurseAt H' p (60 + 64 + 64 * 64 + 64 + 5000 * j))) ⟨⟨_, rfl, But.refl, p10⟩⟩ ?_ ?_
      · rintro j σ H11 hj ⟨w, rfl, b11, p11⟩
        have hT11 := hT10.keep (but_keep b11 p10)
        have j6 : j ≤ 6 := by omega
        have cp : 60 + 64 + 64 * 64 + 64 + 5000 * j ≤ 70000 := by omega
        try walk_at "go"
        refine ⟨s, _, rfl, p11, cp, hk, hT11, hb, fun v d H12 b12 p12 th12 => ?_⟩
        have th := th12.th (p := p) (by obtain ⟨_, _, _, h, _⟩ := p11; rw [h]; exact fun z => by cases z)
        try walk_at "go"
        intro H13 S13
        try walk_at "go"
        exact ⟨⟨_, rfl, b11.trans (b12.trans (same_but S13)), (PurseAt.same B S13 p12).up (by omega)⟩⟩
      rintro σ H11 ⟨w, rfl, b11, p11⟩
      try walk_at "go"
      intro P2 H12 S12 hP
      obtain ⟨dP, thP, eP⟩ := se_is (K := K) (p := p) hP fun _ _ => .inl rfl
      try walk_at "go"
      intro H13 S13
      rw [eP]
      have hP0 := hP.same S13
      obtain ⟨bs, g1, g2, g3⟩ := hP0
      have hP1 : SeAt H13 P2 k fun _ _ => 0 := ⟨bs, g1, g2, g3⟩
      try walk_at "go"
      intro D3 hD3
      refine lc_tup (K := K) (a := P2) (xs := bs.map V.ref) (fun i H' => Kept (Same H13 H' ∧ H' D3 = some (.lst ((List.replicate i (0 : Int)).map V.int)))) ⟨⟨same_new hD3 _, upd_same⟩⟩ (fun i H' _ h => SqT.of (h.ex.1 _ _ g1)) ?_ ?_
      · rintro j x H14 hx ⟨S14, oD3⟩
        rw [List.getElem?_map] at hx
        obtain ⟨r, hr, rfl⟩ := Option.map_eq_some_iff.mp hx
        have hr14 := S14 _ _ (g3 j r hr)
        have jk : j < k := by have := (List.getElem?_eq_some_iff.mp hr).1; omega
        have lr : ((List.replicate j (0 : Int)).map V.int).length ≤ 16 := by rw [List.length_map, List.length_replicate]; omega
        have sz : (row k (fun _ _ => 0) j).sum = 0 := row_zero
        try walk_at "go"
        rw [sz]
        exact ⟨⟨but_same hD3 S14 But.upd, by rw [upd_same, List.replicate_succ', List.map_append] <;> rfl⟩⟩
      rintro H14 ⟨S14, oD3⟩
      try walk_at "go"
      rw [rep_sum]
      refine ifF rfl ?_
      have hP14 := hP1.same S14
      have thP14 := thP.same (S13.trans S14)
      try walk_at "go"
      refine ⟨fun _ T' s' eT hS' hb' U H15 S15 oU => ?_, fun z => absurd (eP.symm.trans z) (by decide)⟩
      cases eT
      rw [sdl_zero (by omega) (se_zero hS' hP14)] at oU
      have hsh : CShl 1 (k : Int) := shl_ok (by omega)
      have eL : (1 : Int) * 2 ^ ((k : Nat) : Int).toNat = ((2 ^ k : Nat) : Int) := by rw [Int.one_mul, Int.toNat_natCast]; push_cast; rfl
      have e16 : 2 ^ k ≤ 16 := (Nat.pow_le_pow_right (by decide) hk : 2 ^ k ≤ 2 ^ 4)
      try walk_at "go"
      rw [eL]
      have e17 : ((2 ^ k : Nat) : Int) ≤ 16 := Int.ofNat_le.mpr e16
      refine ⟨RgOk.of_le (by decide) (Int.le_trans e17 (by decide)) (by decide) (Int.natCast_nonneg _), fun R hR => ?_⟩
      generalize eHR : upd H15 R _ = H16
      have SHR : Same H15 H16 := eHR ▸ same_new hR _
      have oR : H16 R = some (.tup (nV (List.range (2 ^ k)))) := by rw [← eHR, upd_same, rg_nat, nV_ints]
      have d1 : Dp K H16 (.ref U) _ := nD_tup (SHR _ _ oU)
      have d2 : Dp K H16 (.ref R) _ := nD_tup oR
      have s1 := (nD_ly (ss := List.range (2 ^ k))).sh
      try walk_at "go"
      rw [(nD_ly (ss := List.range (2 ^ k))).refl]
      refine ifF rfl ?_
      try walk_at "go"
      exact ⟨⟨_, _, _, _, _, _, _, _, _, _, _, rfl, S2.trans (but_same np S3 (b4.trans (b5.trans (b6.trans ((same_but S610).trans (b11.trans (same_but (S12.trans (S13.trans (S14.trans (S15.trans SHR)))))))))))⟩⟩
    · rintro σ H2 ⟨v1, v2, v3, v4, v5, v6, v7, v8, v9, v10, v11, rfl, S2⟩
      exact q _
end
structure AllD (K : PySem.W.Frag) (mg : Str → Option Value) : Prop where
  d_is_whole : Df K mg "is_whole" s_is_whole ["thing"]
  d_is_within : Df K mg "is_within" s_is_within ["thing", "least", "most"]
  d_want_net : Dfd K mg "want_net" s_want_net ["k", "deepest"] [.int 4]
  d_number_without : Df K mg "number_without" s_number_without ["k", "line", "stage"]
  d_is_setting_row : Df K mg "is_setting_row" s_is_setting_row ["k", "thing"]
  d_is_settings : Df K mg "is_settings" s_is_settings ["k", "thing"]
  d_want_settings : Df K mg "want_settings" s_want_settings ["k", "thing"]
  d_plain_rows : Df K mg "plain_rows" s_plain_rows ["k"]
  d_as_settings : Df K mg "as_settings" s_as_settings ["rows"]
  d_straight : Df K mg "straight" s_straight ["k"]
  d_led_from : Df K mg "led_from" s_led_from ["k", "settings", "hand"]
  d_led : Df K mg "led" s_led ["k", "settings"]
  d__law_rich : Df K mg "_law_rich" s__law_rich ["_law_cell", "_law_turn"]
  d__law_purse : Df K mg "_law_purse" s__law_purse ["_law_script", "_law_k"]
  d__law_take : Df K mg "_law_take" s__law_take ["_law_purse_here", "_law_many"]
  d__law_figures : Df K mg "_law_figures" s__law_figures ["_law_k", "_law_number_here"]
  d__law_number : Df K mg "_law_number" s__law_number ["_law_figures_here"]
  d__law_crossed_line : Df K mg "_law_crossed_line" s__law_crossed_line ["_law_k", "_law_settings_here", "_law_line", "_law_stage"]
  d__law_led : Df K mg "_law_led" s__law_led ["_law_k", "_law_settings_here"]
  d__law_settings : Df K mg "_law_settings" s__law_settings ["_law_purse_here", "_law_k"]
  d__law_is_number : Df K mg "_law_is_number" s__law_is_number ["_law_thing"]
  d__law_is_good_row : Df K mg "_law_is_good_row" s__law_is_good_row ["_law_k", "_law_thing"]
  d__law_are_good : Df K mg "_law_are_good" s__law_are_good ["_law_k", "_law_thing"]
  d__law_put : Df K mg "_law_put" s__law_put ["_law_row", "_law_at", "_law_thing"]
  d__law_bad_row : Df K mg "_law_bad_row" s__law_bad_row ["_law_purse_here", "_law_row"]
  d__law_otherwise : Df K mg "_law_otherwise" s__law_otherwise ["_law_purse_here", "_law_k", "_law_settings_here"]
  d__law_led_or_not : Df K mg "_law_led_or_not" s__law_led_or_not ["_law_k", "_law_thing"]
  d__law_right : Df K mg "_law_right" s__law_right ["_law_k", "_law_thing"]
  d_law : Df K mg "law" s_law ["_law_script"]
  bl : Bl K mg
theorem all_mk {w : World} {K : PySem.W.Frag} {h : Heap} {mg : Str → Option Value} (X : K.In h) (G : h.Ns mainGlobals mg)
    {f1 f2 f3 f4 f5 f6 f7 f8 f9 f10 f11 f12 f13 f14 f15 f16 f17 f18 f19 f20 f21 f22 f23 f24 f25 f26 f27 f28 f29 : Addr} {od1 an1 od2 an2 od3 an3 od4 an4 od5 an5 od6 an6 od7 an7 od8 an8 od9 an9 od10 an10 od11 an11 od12 an12 od13 an13 od14 an14 od15 an15 od16 an16 od17 an17 od18 an18 od19 an19 od20 an20 od21 an21 od22 an22 od23 an23 od24 an24 od25 an25 od26 an26 od27 an27 od28 an28 od29 an29 : Option Addr} {sl1 sl2 sl3 sl4 sl5 sl6 sl7 sl8 sl9 sl10 sl11 sl12 sl13 sl14 sl15 sl16 sl17 sl18 sl19 sl20 sl21 sl22 sl23 sl24 sl25 sl26 sl27 sl28 sl29 : Array (Option Value)} {oc1 kV1 dc1 pm1 cd1 ct1 oc2 kV2 dc2 pm2 cd2 ct2 oc3 kV3 dc3 pm3 cd3 ct3 oc4 kV4 dc4 pm4 cd4 ct4 oc5 kV5 dc5 pm5 cd5 ct5 oc6 kV6 dc6 pm6 cd6 ct6 oc7 kV7 dc7 pm7 cd7 ct7 oc8 kV8 dc8 pm8 cd8 ct8 oc9 kV9 dc9 pm9 cd9 ct9 oc10 kV10 dc10 pm10 cd10 ct10 oc11 kV11 dc11 pm11 cd11 ct11 oc12 kV12 dc12 pm12 cd12 ct12 oc13 kV13 dc13 pm13 cd13 ct13 oc14 kV14 dc14 pm14 cd14 ct14 oc15 kV15 dc15 pm15 cd15 ct15 oc16 kV16 dc16 pm16 cd16 ct16 oc17 kV17 dc17 pm17 cd17 ct17 oc18 kV18 dc18 pm18 cd18 ct18 oc19 kV19 dc19 pm19 cd19 ct19 oc20 kV20 dc20 pm20 cd20 ct20 oc21 kV21 dc21 pm21 cd21 ct21 oc22 kV22 dc22 pm22 cd22 ct22 oc23 kV23 dc23 pm23 cd23 ct23 oc24 kV24 dc24 pm24 cd24 ct24 oc25 kV25 dc25 pm25 cd25 ct25 oc26 kV26 dc26 pm26 cd26 ct26 oc27 kV27 dc27 pm27 cd27 ct27 oc28 kV28 dc28 pm28 cd28 ct28 oc29 kV29 dc29 pm29 cd29 ct29 : Value}
    {da3 : Addr}
    {E0 : Addr} (aE0 : PySem.W.nsIn K mainGlobals "AskError" = some (some (.ref E0))) (xE0 : PySem.W.excIn K E0 [.type "ValueError", .type "Exception", .type "BaseException", .type "object"] "ValueError.__new__" = true) (kE0 : PySem.W.keepIn K (.ref E0) = true) (bE0 : PySem.W.subIn K (.ref E0) (.type "BaseException") = some true) (tE0 : PySem.W.typeIn K (.ref E0) = some (.type "type")) (iE0 : PySem.W.isClsIn K E0 = true)
    {E1 : Addr} (aE1 : PySem.W.nsIn K mainGlobals "NoNet" = some (some (.ref E1))) (xE1 : PySem.W.excIn K E1 [.type "ValueError", .type "Exception", .type "BaseException", .type "object"] "ValueError.__new__" = true) (kE1 : PySem.W.keepIn K (.ref E1) = true) (bE1 : PySem.W.subIn K (.ref E1) (.type "BaseException") = some true) (tE1 : PySem.W.typeIn K (.ref E1) = some (.type "type")) (iE1 : PySem.W.isClsIn K E1 = true)
    {E2 : Addr} (aE2 : PySem.W.nsIn K mainGlobals "NoHand" = some (some (.ref E2))) (xE2 : PySem.W.excIn K E2 [.type "ValueError", .type "Exception", .type "BaseException", .type "object"] "ValueError.__new__" = true) (kE2 : PySem.W.keepIn K (.ref E2) = true) (bE2 : PySem.W.subIn K (.ref E2) (.type "BaseException") = some true) (tE2 : PySem.W.typeIn K (.ref E2) = some (.type "type")) (iE2 : PySem.W.isClsIn K E2 = true)
    {E3 : Addr} (aE3 : PySem.W.nsIn K mainGlobals "NoSide" = some (some (.ref E3))) (xE3 : PySem.W.excIn K E3 [.type "ValueError", .type "Exception", .type "BaseException", .type "object"] "ValueError.__new__" = true) (kE3 : PySem.W.keepIn K (.ref E3) = true) (bE3 : PySem.W.subIn K (.ref E3) (.type "BaseException") = some true) (tE3 : PySem.W.typeIn K (.ref E3) = some (.type "type")) (iE3 : PySem.W.isClsIn K E3 = true)
    {E4 : Addr} (aE4 : PySem.W.nsIn K mainGlobals "NoSettings" = some (some (.ref E4))) (xE4 : PySem.W.excIn K E4 [.type "ValueError", .type "Exception", .type "BaseException", .type "object"] "ValueError.__new__" = true) (kE4 : PySem.W.keepIn K (.ref E4) = true) (bE4 : PySem.W.subIn K (.ref E4) (.type "BaseException") = some true) (tE4 : PySem.W.typeIn K (.ref E4) = some (.type "type")) (iE4 : PySem.W.isClsIn K E4 = true)
    (sE4_0 : PySem.W.subIn K (.ref E4) (.ref E0) = some true)
    (sE4_1 : PySem.W.subIn K (.ref E4) (.ref E1) = some false)
    (sE4_2 : PySem.W.subIn K (.ref E4) (.ref E2) = some false)
    (sE4_3 : PySem.W.subIn K (.ref E4) (.ref E3) = some false)
    (sE4_4 : PySem.W.subIn K (.ref E4) (.ref E4) = some true)
    (spG : PySem.W.specialIn K (.builtin "object.__class__") "__get__" = some (some (.builtin "getset_descriptor.__get__"))) (tkG : PySem.W.takesIn K (.builtin "object.__class__") = some true)
    (ga4 : PySem.W.findIn K (.ref E4) "__getattribute__" = some (some (.builtin "BaseException.__getattribute__"))) (gt4 : PySem.W.findIn K (.ref E4) "__getattr__" = some none) (hi4 : PySem.W.hasDictIn K E4 = true) (fc4 : PySem.W.findIn K (.ref E4) "__class__" = some (some (.builtin "object.__class__"))) (mo4 : PySem.W.mroIn K E4 (.type "object") = some true) (vE4 : PySem.W.subIn K (.ref E4) (.type "ValueError") = some true)
    (a1 : PySem.W.nsIn K mainGlobals "is_whole" = some (some (.ref f1))) (l1 : K.lookup f1 = some ⟨oc1, od1, .func (PySem.W.fnOf "is_whole" "is_whole" (defArgs s_is_whole) (defBody s_is_whole) (defScope s_is_whole) .none kV1 dc1 pm1 an1 cd1 ct1), sl1⟩) (c1 : PySem.W.codeIn K cd1 "is_whole" = true) (k1 : PySem.W.keepIn K (.ref f1) = true)
    (a2 : PySem.W.nsIn K mainGlobals "is_within" = some (some (.ref f2))) (l2 : K.lookup f2 = some ⟨oc2, od2, .func (PySem.W.fnOf "is_within" "is_within" (defArgs s_is_within) (defBody s_is_within) (defScope s_is_within) .none kV2 dc2 pm2 an2 cd2 ct2), sl2⟩) (c2 : PySem.W.codeIn K cd2 "is_within" = true) (k2 : PySem.W.keepIn K (.ref f2) = true)
    (a3 : PySem.W.nsIn K mainGlobals "want_net" = some (some (.ref f3))) (l3 : K.lookup f3 = some ⟨oc3, od3, .func (PySem.W.fnOf "want_net" "want_net" (defArgs s_want_net) (defBody s_want_net) (defScope s_want_net) (.ref da3) kV3 dc3 pm3 an3 cd3 ct3), sl3⟩) (c3 : PySem.W.codeIn K cd3 "want_net" = true) (k3 : PySem.W.keepIn K (.ref f3) = true)
    {dt3_0 : Tok} {dd3 : Option Addr} {dn3 : Nat} {dz3 : Array (Option Value)} (dl3 : K.lookup da3 = some ⟨.type "tuple", dd3, .seq #[.int 4 dt3_0] dn3, dz3⟩)
    (a4 : PySem.W.nsIn K mainGlobals "number_without" = some (some (.ref f4))) (l4 : K.lookup f4 = some ⟨oc4, od4, .func (PySem.W.fnOf "number_without" "number_without" (defArgs s_number_without) (defBody s_number_without) (defScope s_number_without) .none kV4 dc4 pm4 an4 cd4 ct4), sl4⟩) (c4 : PySem.W.codeIn K cd4 "number_without" = true) (k4 : PySem.W.keepIn K (.ref f4) = true)
    (a5 : PySem.W.nsIn K mainGlobals "is_setting_row" = some (some (.ref f5))) (l5 : K.lookup f5 = some ⟨oc5, od5, .func (PySem.W.fnOf "is_setting_row" "is_setting_row" (defArgs s_is_setting_row) (defBody s_is_setting_row) (defScope s_is_setting_row) .none kV5 dc5 pm5 an5 cd5 ct5), sl5⟩) (c5 : PySem.W.codeIn K cd5 "is_setting_row" = true) (k5 : PySem.W.keepIn K (.ref f5) = true)
    (a6 : PySem.W.nsIn K mainGlobals "is_settings" = some (some (.ref f6))) (l6 : K.lookup f6 = some ⟨oc6, od6, .func (PySem.W.fnOf "is_settings" "is_settings" (defArgs s_is_settings) (defBody s_is_settings) (defScope s_is_settings) .none kV6 dc6 pm6 an6 cd6 ct6), sl6⟩) (c6 : PySem.W.codeIn K cd6 "is_settings" = true) (k6 : PySem.W.keepIn K (.ref f6) = true)
    (a7 : PySem.W.nsIn K mainGlobals "want_settings" = some (some (.ref f7))) (l7 : K.lookup f7 = some ⟨oc7, od7, .func (PySem.W.fnOf "want_settings" "want_settings" (defArgs s_want_settings) (defBody s_want_settings) (defScope s_want_settings) .none kV7 dc7 pm7 an7 cd7 ct7), sl7⟩) (c7 : PySem.W.codeIn K cd7 "want_settings" = true) (k7 : PySem.W.keepIn K (.ref f7) = true)
    (a8 : PySem.W.nsIn K mainGlobals "plain_rows" = some (some (.ref f8))) (l8 : K.lookup f8 = some ⟨oc8, od8, .func (PySem.W.fnOf "plain_rows" "plain_rows" (defArgs s_plain_rows) (defBody s_plain_rows) (defScope s_plain_rows) .none kV8 dc8 pm8 an8 cd8 ct8), sl8⟩) (c8 : PySem.W.codeIn K cd8 "plain_rows" = true) (k8 : PySem.W.keepIn K (.ref f8) = true)
    (a9 : PySem.W.nsIn K mainGlobals "as_settings" = some (some (.ref f9))) (l9 : K.lookup f9 = some ⟨oc9, od9, .func (PySem.W.fnOf "as_settings" "as_settings" (defArgs s_as_settings) (defBody s_as_settings) (defScope s_as_settings) .none kV9 dc9 pm9 an9 cd9 ct9), sl9⟩) (c9 : PySem.W.codeIn K cd9 "as_settings" = true) (k9 : PySem.W.keepIn K (.ref f9) = true)
    (a10 : PySem.W.nsIn K mainGlobals "straight" = some (some (.ref f10))) (l10 : K.lookup f10 = some ⟨oc10, od10, .func (PySem.W.fnOf "straight" "straight" (defArgs s_straight) (defBody s_straight) (defScope s_straight) .none kV10 dc10 pm10 an10 cd10 ct10), sl10⟩) (c10 : PySem.W.codeIn K cd10 "straight" = true) (k10 : PySem.W.keepIn K (.ref f10) = true)
    (a11 : PySem.W.nsIn K mainGlobals "led_from" = some (some (.ref f11))) (l11 : K.lookup f11 = some ⟨oc11, od11, .func (PySem.W.fnOf "led_from" "led_from" (defArgs s_led_from) (defBody s_led_from) (defScope s_led_from) .none kV11 dc11 pm11 an11 cd11 ct11), sl11⟩) (c11 : PySem.W.codeIn K cd11 "led_from" = true) (k11 : PySem.W.keepIn K (.ref f11) = true)
    (a12 : PySem.W.nsIn K mainGlobals "led" = some (some (.ref f12))) (l12 : K.lookup f12 = some ⟨oc12, od12, .func (PySem.W.fnOf "led" "led" (defArgs s_led) (defBody s_led) (defScope s_led) .none kV12 dc12 pm12 an12 cd12 ct12), sl12⟩) (c12 : PySem.W.codeIn K cd12 "led" = true) (k12 : PySem.W.keepIn K (.ref f12) = true)
    (a13 : PySem.W.nsIn K mainGlobals "_law_rich" = some (some (.ref f13))) (l13 : K.lookup f13 = some ⟨oc13, od13, .func (PySem.W.fnOf "_law_rich" "_law_rich" (defArgs s__law_rich) (defBody s__law_rich) (defScope s__law_rich) .none kV13 dc13 pm13 an13 cd13 ct13), sl13⟩) (c13 : PySem.W.codeIn K cd13 "_law_rich" = true) (k13 : PySem.W.keepIn K (.ref f13) = true)
    (a14 : PySem.W.nsIn K mainGlobals "_law_purse" = some (some (.ref f14))) (l14 : K.lookup f14 = some ⟨oc14, od14, .func (PySem.W.fnOf "_law_purse" "_law_purse" (defArgs s__law_purse) (defBody s__law_purse) (defScope s__law_purse) .none kV14 dc14 pm14 an14 cd14 ct14), sl14⟩) (c14 : PySem.W.codeIn K cd14 "_law_purse" = true) (k14 : PySem.W.keepIn K (.ref f14) = true)
    (a15 : PySem.W.nsIn K mainGlobals "_law_take" = some (some (.ref f15))) (l15 : K.lookup f15 = some ⟨oc15, od15, .func (PySem.W.fnOf "_law_take" "_law_take" (defArgs s__law_take) (defBody s__law_take) (defScope s__law_take) .none kV15 dc15 pm15 an15 cd15 ct15), sl15⟩) (c15 : PySem.W.codeIn K cd15 "_law_take" = true) (k15 : PySem.W.keepIn K (.ref f15) = true)
    (a16 : PySem.W.nsIn K mainGlobals "_law_figures" = some (some (.ref f16))) (l16 : K.lookup f16 = some ⟨oc16, od16, .func (PySem.W.fnOf "_law_figures" "_law_figures" (defArgs s__law_figures) (defBody s__law_figures) (defScope s__law_figures) .none kV16 dc16 pm16 an16 cd16 ct16), sl16⟩) (c16 : PySem.W.codeIn K cd16 "_law_figures" = true) (k16 : PySem.W.keepIn K (.ref f16) = true)
    (a17 : PySem.W.nsIn K mainGlobals "_law_number" = some (some (.ref f17))) (l17 : K.lookup f17 = some ⟨oc17, od17, .func (PySem.W.fnOf "_law_number" "_law_number" (defArgs s__law_number) (defBody s__law_number) (defScope s__law_number) .none kV17 dc17 pm17 an17 cd17 ct17), sl17⟩) (c17 : PySem.W.codeIn K cd17 "_law_number" = true) (k17 : PySem.W.keepIn K (.ref f17) = true)
    (a18 : PySem.W.nsIn K mainGlobals "_law_crossed_line" = some (some (.ref f18))) (l18 : K.lookup f18 = some ⟨oc18, od18, .func (PySem.W.fnOf "_law_crossed_line" "_law_crossed_line" (defArgs s__law_crossed_line) (defBody s__law_crossed_line) (defScope s__law_crossed_line) .none kV18 dc18 pm18 an18 cd18 ct18), sl18⟩) (c18 : PySem.W.codeIn K cd18 "_law_crossed_line" = true) (k18 : PySem.W.keepIn K (.ref f18) = true)
    (a19 : PySem.W.nsIn K mainGlobals "_law_led" = some (some (.ref f19))) (l19 : K.lookup f19 = some ⟨oc19, od19, .func (PySem.W.fnOf "_law_led" "_law_led" (defArgs s__law_led) (defBody s__law_led) (defScope s__law_led) .none kV19 dc19 pm19 an19 cd19 ct19), sl19⟩) (c19 : PySem.W.codeIn K cd19 "_law_led" = true) (k19 : PySem.W.keepIn K (.ref f19) = true)
    (a20 : PySem.W.nsIn K mainGlobals "_law_settings" = some (some (.ref f20))) (l20 : K.lookup f20 = some ⟨oc20, od20, .func (PySem.W.fnOf "_law_settings" "_law_settings" (defArgs s__law_settings) (defBody s__law_settings) (defScope s__law_settings) .none kV20 dc20 pm20 an20 cd20 ct20), sl20⟩) (c20 : PySem.W.codeIn K cd20 "_law_settings" = true) (k20 : PySem.W.keepIn K (.ref f20) = true)
    (a21 : PySem.W.nsIn K mainGlobals "_law_is_number" = some (some (.ref f21))) (l21 : K.lookup f21 = some ⟨oc21, od21, .func (PySem.W.fnOf "_law_is_number" "_law_is_number" (defArgs s__law_is_number) (defBody s__law_is_number) (defScope s__law_is_number) .none kV21 dc21 pm21 an21 cd21 ct21), sl21⟩) (c21 : PySem.W.codeIn K cd21 "_law_is_number" = true) (k21 : PySem.W.keepIn K (.ref f21) = true)
    (a22 : PySem.W.nsIn K mainGlobals "_law_is_good_row" = some (some (.ref f22))) (l22 : K.lookup f22 = some ⟨oc22, od22, .func (PySem.W.fnOf "_law_is_good_row" "_law_is_good_row" (defArgs s__law_is_good_row) (defBody s__law_is_good_row) (defScope s__law_is_good_row) .none kV22 dc22 pm22 an22 cd22 ct22), sl22⟩) (c22 : PySem.W.codeIn K cd22 "_law_is_good_row" = true) (k22 : PySem.W.keepIn K (.ref f22) = true)
    (a23 : PySem.W.nsIn K mainGlobals "_law_are_good" = some (some (.ref f23))) (l23 : K.lookup f23 = some ⟨oc23, od23, .func (PySem.W.fnOf "_law_are_good" "_law_are_good" (defArgs s__law_are_good) (defBody s__law_are_good) (defScope s__law_are_good) .none kV23 dc23 pm23 an23 cd23 ct23), sl23⟩) (c23 : PySem.W.codeIn K cd23 "_law_are_good" = true) (k23 : PySem.W.keepIn K (.ref f23) = true)
    (a24 : PySem.W.nsIn K mainGlobals "_law_put" = some (some (.ref f24))) (l24 : K.lookup f24 = some ⟨oc24, od24, .func (PySem.W.fnOf "_law_put" "_law_put" (defArgs s__law_put) (defBody s__law_put) (defScope s__law_put) .none kV24 dc24 pm24 an24 cd24 ct24), sl24⟩) (c24 : PySem.W.codeIn K cd24 "_law_put" = true) (k24 : PySem.W.keepIn K (.ref f24) = true)
    (a25 : PySem.W.nsIn K mainGlobals "_law_bad_row" = some (some (.ref f25))) (l25 : K.lookup f25 = some ⟨oc25, od25, .func (PySem.W.fnOf "_law_bad_row" "_law_bad_row" (defArgs s__law_bad_row) (defBody s__law_bad_row) (defScope s__law_bad_row) .none kV25 dc25 pm25 an25 cd25 ct25), sl25⟩) (c25 : PySem.W.codeIn K cd25 "_law_bad_row" = true) (k25 : PySem.W.keepIn K (.ref f25) = true)
    (a26 : PySem.W.nsIn K mainGlobals "_law_otherwise" = some (some (.ref f26))) (l26 : K.lookup f26 = some ⟨oc26, od26, .func (PySem.W.fnOf "_law_otherwise" "_law_otherwise" (defArgs s__law_otherwise) (defBody s__law_otherwise) (defScope s__law_otherwise) .none kV26 dc26 pm26 an26 cd26 ct26), sl26⟩) (c26 : PySem.W.codeIn K cd26 "_law_otherwise" = true) (k26 : PySem.W.keepIn K (.ref f26) = true)
    (a27 : PySem.W.nsIn K mainGlobals "_law_led_or_not" = some (some (.ref f27))) (l27 : K.lookup f27 = some ⟨oc27, od27, .func (PySem.W.fnOf "_law_led_or_not" "_law_led_or_not" (defArgs s__law_led_or_not) (defBody s__law_led_or_not) (defScope s__law_led_or_not) .none kV27 dc27 pm27 an27 cd27 ct27), sl27⟩) (c27 : PySem.W.codeIn K cd27 "_law_led_or_not" = true) (k27 : PySem.W.keepIn K (.ref f27) = true)
    (a28 : PySem.W.nsIn K mainGlobals "_law_right" = some (some (.ref f28))) (l28 : K.lookup f28 = some ⟨oc28, od28, .func (PySem.W.fnOf "_law_right" "_law_right" (defArgs s__law_right) (defBody s__law_right) (defScope s__law_right) .none kV28 dc28 pm28 an28 cd28 ct28), sl28⟩) (c28 : PySem.W.codeIn K cd28 "_law_right" = true) (k28 : PySem.W.keepIn K (.ref f28) = true)
    (a29 : PySem.W.nsIn K mainGlobals "law" = some (some (.ref f29))) (l29 : K.lookup f29 = some ⟨oc29, od29, .func (PySem.W.fnOf "law" "law" (defArgs s_law) (defBody s_law) (defScope s_law) .none kV29 dc29 pm29 an29 cd29 ct29), sl29⟩) (c29 : PySem.W.codeIn K cd29 "law" = true) (k29 : PySem.W.keepIn K (.ref f29) = true)
    (z0 : PySem.W.nsIn K mainGlobals "ValueError" = some none)
    (z1 : PySem.W.nsIn K mainGlobals "abs" = some none)
    (z2 : PySem.W.nsIn K mainGlobals "all" = some none)
    (z3 : PySem.W.nsIn K mainGlobals "bool" = some none)
    (z4 : PySem.W.nsIn K mainGlobals "dict" = some none)
    (z5 : PySem.W.nsIn K mainGlobals "e" = some none)
    (z6 : PySem.W.nsIn K mainGlobals "enumerate" = some none)
    (z7 : PySem.W.nsIn K mainGlobals "int" = some none)
    (z8 : PySem.W.nsIn K mainGlobals "isinstance" = some none)
    (z9 : PySem.W.nsIn K mainGlobals "len" = some none)
    (z10 : PySem.W.nsIn K mainGlobals "list" = some none)
    (z11 : PySem.W.nsIn K mainGlobals "max" = some none)
    (z12 : PySem.W.nsIn K mainGlobals "min" = some none)
    (z13 : PySem.W.nsIn K mainGlobals "range" = some none)
    (z14 : PySem.W.nsIn K mainGlobals "sum" = some none)
    (z15 : PySem.W.nsIn K mainGlobals "tuple" = some none)
    : AllD K mg := by
  exact ⟨Df.of l1 c1 k1 (PySem.W.mg_of X G a1) (fun _ _ _ _ _ _ us hl => match us, hl with | [_], _ => rfl), Df.of l2 c2 k2 (PySem.W.mg_of X G a2) (fun _ _ _ _ _ _ us hl => match us, hl with | [_, _, _], _ => rfl), Dfd.of (n := 1) l3 c3 k3 (PySem.W.mg_of X G a3) dl3 rfl (.cons ⟨_, rfl⟩ .nil) rfl (fun us hl => match us, hl with | [_], _ => ⟨_, rfl, rfl⟩), Df.of l4 c4 k4 (PySem.W.mg_of X G a4) (fun _ _ _ _ _ _ us hl => match us, hl with | [_, _, _], _ => rfl), Df.of l5 c5 k5 (PySem.W.mg_of X G a5) (fun _ _ _ _ _ _ us hl => match us, hl with | [_, _], _ => rfl), Df.of l6 c6 k6 (PySem.W.mg_of X G a6) (fun _ _ _ _ _ _ us hl => match us, hl with | [_, _], _ => rfl), Df.of l7 c7 k7 (PySem.W.mg_of X G a7) (fun _ _ _ _ _ _ us hl => match us, hl with | [_, _], _ => rfl), Df.of l8 c8 k8 (PySem.W.mg_of X G a8) (fun _ _ _ _ _ _ us hl => match us, hl with | [_], _ => rfl), Df.of l9 c9 k9 (PySem.W.mg_of X G a9) (fun _ _ _ _ _ _ us hl => match us, hl with | [_], _ => rfl), Df.of l10 c10 k10 (PySem.W.mg_of X G a10) (fun _ _ _ _ _ _ us hl => match us, hl with | [_], _ => rfl), Df.of l11 c11 k11 (PySem.W.mg_of X G a11) (fun _ _ _ _ _ _ us hl => match us, hl with | [_, _, _], _ => rfl), Df.of l12 c12 k12 (PySem.W.mg_of X G a12) (fun _ _ _ _ _ _ us hl => match us, hl with | [_, _], _ => rfl), Df.of l13 c13 k13 (PySem.W.mg_of X G a13) (fun _ _ _ _ _ _ us hl => match us, hl with | [_, _], _ => rfl), Df.of l14 c14 k14 (PySem.W.mg_of X G a14) (fun _ _ _ _ _ _ us hl => match us, hl with | [_, _], _ => rfl), Df.of l15 c15 k15 (PySem.W.mg_of X G a15) (fun _ _ _ _ _ _ us hl => match us, hl with | [_, _], _ => rfl), Df.of l16 c16 k16 (PySem.W.mg_of X G a16) (fun _ _ _ _ _ _ us hl => match us, hl with | [_, _], _ => rfl), Df.of l17 c17 k17 (PySem.W.mg_of X G a17) (fun _ _ _ _ _ _ us hl => match us, hl with | [_], _ => rfl), Df.of l18 c18 k18 (PySem.W.mg_of X G a18) (fun _ _ _ _ _ _ us hl => match us, hl with | [_, _, _, _], _ => rfl), Df.of l19 c19 k19 (PySem.W.mg_of X G a19) (fun _ _ _ _ _ _ us hl => match us, hl with | [_, _], _ => rfl), Df.of l20 c20 k20 (PySem.W.mg_of X G a20) (fun _ _ _ _ _ _ us hl => match us, hl with | [_, _], _ => rfl), Df.of l21 c21 k21 (PySem.W.mg_of X G a21) (fun _ _ _ _ _ _ us hl => match us, hl with | [_], _ => rfl), Df.of l22 c22 k22 (PySem.W.mg_of X G a22) (fun _ _ _ _ _ _ us hl => match us, hl with | [_, _], _ => rfl), Df.of l23 c23 k23 (PySem.W.mg_of X G a23) (fun _ _ _ _ _ _ us hl => match us, hl with | [_, _], _ => rfl), Df.of l24 c24 k24 (PySem.W.mg_of X G a24) (fun _ _ _ _ _ _ us hl => match us, hl with | [_, _, _], _ => rfl), Df.of l25 c25 k25 (PySem.W.mg_of X G a25) (fun _ _ _ _ _ _ us hl => match us, hl with | [_, _], _ => rfl), Df.of l26 c26 k26 (PySem.W.mg_of X G a26) (fun _ _ _ _ _ _ us hl => match us, hl with | [_, _, _], _ => rfl), Df.of l27 c27 k27 (PySem.W.mg_of X G a27) (fun _ _ _ _ _ _ us hl => match us, hl with | [_, _], _ => rfl), Df.of l28 c28 k28 (PySem.W.mg_of X G a28) (fun _ _ _ _ _ _ us hl => match us, hl with | [_, _], _ => rfl), Df.of l29 c29 k29 (PySem.W.mg_of X G a29) (fun _ _ _ _ _ _ us hl => match us, hl with | [_], _ => rfl), ⟨PySem.W.mg_none_of X G z0, PySem.W.mg_none_of X G z1, PySem.W.mg_none_of X G z2, PySem.W.mg_none_of X G z3, PySem.W.mg_none_of X G z4, PySem.W.mg_none_of X G z5, PySem.W.mg_none_of X G z6, PySem.W.mg_none_of X G z7, PySem.W.mg_none_of X G z8, PySem.W.mg_none_of X G z9, PySem.W.mg_none_of X G z10, PySem.W.mg_none_of X G z11, PySem.W.mg_none_of X G z12, PySem.W.mg_none_of X G z13, PySem.W.mg_none_of X G z14, PySem.W.mg_none_of X G z15, ExcF.of (PySem.W.mg_of X G aE0) xE0 kE0 bE0 tE0 iE0, ExcF.of (PySem.W.mg_of X G aE1) xE1 kE1 bE1 tE1 iE1, ExcF.of (PySem.W.mg_of X G aE2) xE2 kE2 bE2 tE2 iE2, ExcF.of (PySem.W.mg_of X G aE3) xE3 kE3 bE3 tE3 iE3, ExcF.of (PySem.W.mg_of X G aE4) xE4 kE4 bE4 tE4 iE4, SubF.of (PySem.W.mg_of X G aE4) (PySem.W.mg_of X G aE0) sE4_0, SubF.of (PySem.W.mg_of X G aE4) (PySem.W.mg_of X G aE1) sE4_1, SubF.of (PySem.W.mg_of X G aE4) (PySem.W.mg_of X G aE2) sE4_2, SubF.of (PySem.W.mg_of X G aE4) (PySem.W.mg_of X G aE3) sE4_3, SubF.of (PySem.W.mg_of X G aE4) (PySem.W.mg_of X G aE4) sE4_4, ExcI.of (PySem.W.mg_of X G aE4) ⟨ga4, gt4, bE4, hi4, fc4, spG, tkG, mo4⟩ vE4⟩⟩

theorem law_fd {P : Program} {w : World} {K : PySem.W.Frag} {mg : Str → Option Value} {fa : Addr} (A : AllD K mg) (hfa : mg "law" = some (.ref fa)) :
    ∃ fd : FuncData, (∀ (s : Shared) (v : Value), BindsTo s fd ⟨[v], []⟩ [("_law_script", v)]) ∧ ∀ base : Heap, K.In base → base.Ns mainGlobals mg → FnG P w K mg base CX0 9 fa fd ["_law_script"] (spLaw K) := by
  obtain ⟨f, fd, F, m, b⟩ := A.d_law.ex
  have e := hfa.symm.trans m
  cases e
  refine ⟨fd, fun s v => by obtain ⟨oc, od, kV, doc, pm, an, cdv, ct, osl, rfl, lk, hcd⟩ := F.ex; exact .of_eq rfl, fun base _ _ => ?_⟩
  have B := A.bl
  have D__law_figures : Dn P w K mg base 1 "_law_figures" ["_law_k", "_law_number_here"] spFigs := k__law_figures B A.d__law_figures 
  have D__law_number : Dn P w K mg base 1 "_law_number" ["_law_figures_here"] (spNum K) := k__law_number B A.d__law_number 
  have D__law_rich : Dn P w K mg base 1 "_law_rich" ["_law_cell", "_law_turn"] (spRich K) := k__law_rich B A.d__law_rich 
  have D__law_purse : Dn P w K mg base 1 "_law_purse" ["_law_script", "_law_k"] (spPurse K) := k__law_purse B A.d__law_purse 
  have D__law_take : Dn P w K mg base 2 "_law_take" ["_law_purse_here", "_law_many"] (spTakeP K) := k__law_take B A.d__law_take D__law_rich
  have D_is_whole : Dn P w K mg base 1 "is_whole" ["thing"] (spWhT K) := k_is_whole B A.d_is_whole 
  have D_is_within : Dn P w K mg base 2 "is_within" ["thing", "least", "most"] spWithin1 := k_is_within B A.d_is_within D_is_whole
  have D_number_without : Dn P w K mg base 1 "number_without" ["k", "line", "stage"] spNwo := k_number_without B A.d_number_without 
  have D_want_net : DnD P w K mg base 3 "want_net" ["k", "deepest"] [.int 4] spNet1 := k_want_net B A.d_want_net D_is_within
  have D_is_setting_row : Dn P w K mg base 2 "is_setting_row" ["k", "thing"] (spSRT K) := k_is_setting_row B A.d_is_setting_row D_is_whole
  have D_is_settings : Dn P w K mg base 4 "is_settings" ["k", "thing"] (spIST K) := k_is_settings B A.d_is_settings D_want_net D_is_setting_row
  have D_want_settings : Dx P w K mg base 5 "want_settings" ["k", "thing"] (spWST K (cAt mg "NoSettings")) := k_want_settings B A.d_want_settings D_is_settings
  have D_plain_rows : Dn P w K mg base 1 "plain_rows" ["k"] spPlain := k_plain_rows B A.d_plain_rows 
  have D_as_settings : Dn P w K mg base 1 "as_settings" ["rows"] (spAsSe K) := k_as_settings B A.d_as_settings 
  have D_led_from : Dn P w K mg base 2 "led_from" ["k", "settings", "hand"] (spLedF K) := k_led_from B A.d_led_from D_number_without
  have D_straight : Dn P w K mg base 4 "straight" ["k"] (spStr K) := k_straight B A.d_straight D_want_net D_plain_rows D_as_settings
  have D_led : Dx P w K mg base 6 "led" ["k", "settings"] (spLedT K (cAt mg "NoSettings")) := k_led B A.d_led D_want_net D_want_settings D_led_from
  have D__law_crossed_line : Dn P w K mg base 3 "_law_crossed_line" ["_law_k", "_law_settings_here", "_law_line", "_law_stage"] (spCross K) := k__law_crossed_line B A.d__law_crossed_line D__law_figures D__law_number
  have D__law_led : Dn P w K mg base 4 "_law_led" ["_law_k", "_law_settings_here"] (spLedL K) := k__law_led B A.d__law_led D__law_crossed_line
  have D__law_settings : Dn P w K mg base 3 "_law_settings" ["_law_purse_here", "_law_k"] (spSettS K) := k__law_settings B A.d__law_settings D__law_take
  have D__law_is_number : Dn P w K mg base 1 "_law_is_number" ["_law_thing"] (spWhT4 K) := k__law_is_number B A.d__law_is_number 
  have D__law_is_good_row : Dn P w K mg base 2 "_law_is_good_row" ["_law_k", "_law_thing"] (spGR K) := k__law_is_good_row B A.d__law_is_good_row D__law_is_number
  have D__law_are_good : Dn P w K mg base 3 "_law_are_good" ["_law_k", "_law_thing"] (spAG K) := k__law_are_good B A.d__law_are_good D__law_is_good_row
  have D__law_put : Dn P w K mg base 1 "_law_put" ["_law_row", "_law_at", "_law_thing"] spPutR := k__law_put B A.d__law_put 
  have D__law_bad_row : Dn P w K mg base 3 "_law_bad_row" ["_law_purse_here", "_law_row"] (spBadR K) := k__law_bad_row B A.d__law_bad_row D__law_take D__law_put
  have D__law_otherwise : Dn P w K mg base 4 "_law_otherwise" ["_law_purse_here", "_law_k", "_law_settings_here"] (spOther K) := k__law_otherwise B A.d__law_otherwise D__law_take D__law_settings D__law_put D__law_bad_row
  have D__law_led_or_not : Dn P w K mg base 7 "_law_led_or_not" ["_law_k", "_law_thing"] (spLon K) := k__law_led_or_not B A.d__law_led_or_not D_led D__law_is_number
  have D__law_right : Dn P w K mg base 8 "_law_right" ["_law_k", "_law_thing"] (spRightB K) := k__law_right B A.d__law_right D_is_settings D__law_are_good D__law_led_or_not D__law_led
  exact k_law B F D__law_purse D__law_take D__law_settings D__law_right D__law_otherwise D_straight D__law_are_good D__law_led_or_not

theorem walk {l : PySem.W.OpenLaw} {q : Program} {loose : List Str} {XP : (Str → Option Value) → Heap → Prop} {YP : World → Heap → Prop} {d : DefRec} {K : Params → PySem.W.Frag} (hn : l.most = some 63) (hdf : d.params.defaults = [])
    (hY : ∀ (w : World) (h : Heap), YP w h → (K w.params).In h) (hname : d.name = "law") (F : ∀ (w : World) (mg : Str → Option Value) (h : Heap), (K w.params).In h → h.Ns mainGlobals mg → AllD (K w.params) mg) :
    PySem.W.WalkO q loose XP YP l.row.toRowW d [] (fun f vs => PySem.call f vs) :=
  walk_G (n := 63) (k := 9) (x := "_law_script") (sp := spLaw) hn (by decide) hdf ⟨rfl, by decide, by decide⟩ hY
    (fun w mg fa h KX G hfa => law_fd (F w mg h KX G) (by rw [hname] at hfa; exact hfa)) fun _ _ a ns hl hS => ⟨a, ns, rfl, hS, hl, fun _ => rfl⟩
end Toy
open PySem PySem.W PyProof.Rows
set_option maxRecDepth 100000 in
set_option maxHeartbeats 0 in
theorem PySem.Challenge.cw_joinedasks_k34_settings_and_led_holds : PySem.Challenge.rw_joinedasks_k34_settings_and_led.Holds := by
  w_on; o_law; k_head; (case hw => w_witness2)
  k_fill
  refine Toy.walk (l := PySem.Challenge.rw_joinedasks_k34_settings_and_led) rfl rfl (fun w h Y => PySem.W.kIn_of Y) rfl ?F
  case F =>
    intro w mg h KX G
    refine' Toy.all_mk (w := w) KX G ?aE0 ?xE0 ?kE0 ?bE0 ?tE0 ?iE0 ?aE1 ?xE1 ?kE1 ?bE1 ?tE1 ?iE1 ?aE2 ?xE2 ?kE2 ?bE2 ?tE2 ?iE2 ?aE3 ?xE3 ?kE3 ?bE3 ?tE3 ?iE3 ?aE4 ?xE4 ?kE4 ?bE4 ?tE4 ?iE4 ?sE4_0 ?sE4_1 ?sE4_2 ?sE4_3 ?sE4_4 ?spG ?tkG ?ga4 ?gt4 ?hi4 ?fc4 ?mo4 ?vE4 ?a1 ?l1 ?c1 ?k1 ?a2 ?l2 ?c2 ?k2 ?a3 ?l3 ?c3 ?k3 ?dl3 ?a4 ?l4 ?c4 ?k4 ?a5 ?l5 ?c5 ?k5 ?a6 ?l6 ?c6 ?k6 ?a7 ?l7 ?c7 ?k7 ?a8 ?l8 ?c8 ?k8 ?a9 ?l9 ?c9 ?k9 ?a10 ?l10 ?c10 ?k10 ?a11 ?l11 ?c11 ?k11 ?a12 ?l12 ?c12 ?k12 ?a13 ?l13 ?c13 ?k13 ?a14 ?l14 ?c14 ?k14 ?a15 ?l15 ?c15 ?k15 ?a16 ?l16 ?c16 ?k16 ?a17 ?l17 ?c17 ?k17 ?a18 ?l18 ?c18 ?k18 ?a19 ?l19 ?c19 ?k19 ?a20 ?l20 ?c20 ?k20 ?a21 ?l21 ?c21 ?k21 ?a22 ?l22 ?c22 ?k22 ?a23 ?l23 ?c23 ?k23 ?a24 ?l24 ?c24 ?k24 ?a25 ?l25 ?c25 ?k25 ?a26 ?l26 ?c26 ?k26 ?a27 ?l27 ?c27 ?k27 ?a28 ?l28 ?c28 ?k28 ?a29 ?l29 ?c29 ?k29 ?z0 ?z1 ?z2 ?z3 ?z4 ?z5 ?z6 ?z7 ?z8 ?z9 ?z10 ?z11 ?z12 ?z13 ?z14 ?z15
    (case aE0 => k_is)
    (case xE0 => k_exc)
    (case kE0 => k_is)
    (case bE0 => k_is)
    (case tE0 => k_is)
    (case iE0 => k_is)
    (case aE1 => k_is)
    (case xE1 => k_exc)
    (case kE1 => k_is)
    (case bE1 => k_is)
    (case tE1 => k_is)
    (case iE1 => k_is)
    (case aE2 => k_is)
    (case xE2 => k_exc)
    (case kE2 => k_is)
    (case bE2 => k_is)
    (case tE2 => k_is)
    (case iE2 => k_is)
    (case aE3 => k_is)
    (case xE3 => k_exc)
    (case kE3 => k_is)
    (case bE3 => k_is)
    (case tE3 => k_is)
    (case iE3 => k_is)
    (case aE4 => k_is)
    (case xE4 => k_exc)
    (case kE4 => k_is)
    (case bE4 => k_is)
    (case tE4 => k_is)
    (case iE4 => k_is)
    (case sE4_0 => first | rfl | k_is)
    (case sE4_1 => first | rfl | k_is)
    (case sE4_2 => first | rfl | k_is)
    (case sE4_3 => first | rfl | k_is)
    (case sE4_4 => first | rfl | k_is)
    (case spG => k_is)
    (case tkG => k_is)
    (case ga4 => k_is)
    (case gt4 => k_is)
    (case hi4 => k_is)
    (case fc4 => k_is)
    (case mo4 => k_is)
    (case vE4 => k_is)
    (case a1 => k_is)
    (case l1 => k_is)
    (case c1 => k_is)
    (case k1 => k_is)
    (case a2 => k_is)
    (case l2 => k_is)
    (case c2 => k_is)
    (case k2 => k_is)
    (case a3 => k_is)
    (case l3 => k_is)
    (case c3 => k_is)
    (case k3 => k_is)
    (case dl3 => k_is)
    (case a4 => k_is)
    (case l4 => k_is)
    (case c4 => k_is)
    (case k4 => k_is)
    (case a5 => k_is)
    (case l5 => k_is)
    (case c5 => k_is)
    (case k5 => k_is)
    (case a6 => k_is)
    (case l6 => k_is)
    (case c6 => k_is)
    (case k6 => k_is)
    (case a7 => k_is)
    (case l7 => k_is)
    (case c7 => k_is)
    (case k7 => k_is)
    (case a8 => k_is)
    (case l8 => k_is)
    (case c8 => k_is)
    (case k8 => k_is)
    (case a9 => k_is)
    (case l9 => k_is)
    (case c9 => k_is)
    (case k9 => k_is)
    (case a10 => k_is)
    (case l10 => k_is)
    (case c10 => k_is)
    (case k10 => k_is)
    (case a11 => k_is)
    (case l11 => k_is)
    (case c11 => k_is)
    (case k11 => k_is)
    (case a12 => k_is)
    (case l12 => k_is)
    (case c12 => k_is)
    (case k12 => k_is)
    (case a13 => k_is)
    (case l13 => k_is)
    (case c13 => k_is)
    (case k13 => k_is)
    (case a14 => k_is)
    (case l14 => k_is)
    (case c14 => k_is)
    (case k14 => k_is)
    (case a15 => k_is)
    (case l15 => k_is)
    (case c15 => k_is)
    (case k15 => k_is)
    (case a16 => k_is)
    (case l16 => k_is)
    (case c16 => k_is)
    (case k16 => k_is)
    (case a17 => k_is)
    (case l17 => k_is)
    (case c17 => k_is)
    (case k17 => k_is)
    (case a18 => k_is)
    (case l18 => k_is)
    (case c18 => k_is)
    (case k18 => k_is)
    (case a19 => k_is)
    (case l19 => k_is)
    (case c19 => k_is)
    (case k19 => k_is)
    (case a20 => k_is)
    (case l20 => k_is)
    (case c20 => k_is)
    (case k20 => k_is)
    (case a21 => k_is)
    (case l21 => k_is)
    (case c21 => k_is)
    (case k21 => k_is)
    (case a22 => k_is)
    (case l22 => k_is)
    (case c22 => k_is)
    (case k22 => k_is)
    (case a23 => k_is)
    (case l23 => k_is)
    (case c23 => k_is)
    (case k23 => k_is)
    (case a24 => k_is)
    (case l24 => k_is)
    (case c24 => k_is)
    (case k24 => k_is)
    (case a25 => k_is)
    (case l25 => k_is)
    (case c25 => k_is)
    (case k25 => k_is)
    (case a26 => k_is)
    (case l26 => k_is)
    (case c26 => k_is)
    (case k26 => k_is)
    (case a27 => k_is)
    (case l27 => k_is)
    (case c27 => k_is)
    (case k27 => k_is)
    (case a28 => k_is)
    (case l28 => k_is)
    (case c28 => k_is)
    (case k28 => k_is)
    (case a29 => k_is)
    (case l29 => k_is)
    (case c29 => k_is)
    (case k29 => k_is)
    (case z0 => k_is)
    (case z1 => k_is)
    (case z2 => k_is)
    (case z3 => k_is)
    (case z4 => k_is)
    (case z5 => k_is)
    (case z6 => k_is)
    (case z7 => k_is)
    (case z8 => k_is)
    (case z9 => k_is)
    (case z10 => k_is)
    (case z11 => k_is)
    (case z12 => k_is)
    (case z13 => k_is)
    (case z14 => k_is)
    (case z15 => k_is)
#print axioms PySem.Challenge.cw_joinedasks_k34_settings_and_led_holds

