import PyProof.Rows.All
import Wide.All
import OpenK.AllK
import Wide.FinOn
import HandS.ForMost
import HandS.Defaults
import HandS.WideBits
import HandS.Conv
import HandS.IsInst
import HandS.RaiseMore
import HandS.SortInts
import HandS.Style
import HandS.Codes
import HandS.ForExc
import HandS.TryMany
import HandS.Flow
import KE.KEqSeq
import PyProof.ReprRoads
import KE.GoesMore
import KE.KDictZip
import PyProof.ListNew
import HandS.SetFor
import PyProof.StrLawsRepr
import HandS.TupAny
import HandS.TryOnly
import HandS.ExcIs
import HandS.Zip
import HandS.Strs
import HandS.TupMul
import PySem.Challenge.RW_joinedasks_k37_refused_in_order
set_option Elab.async false
set_option linter.all false
set_option maxRecDepth 100000
set_option maxHeartbeats 4000000
set_option exponentiation.threshold 100000
namespace Toy
open PySem PySem.Spec PyProof.Rows L2
/-- a def of the text stands behind its name -/
structure Df (K : PySem.W.Frag) (mg : Str → Option Value) (x : Str) (st : Stmt) (ps : List Str) : Prop where
  ex : ∃ f fd, Fun K x x st f fd ∧ mg x = some (.ref f) ∧ Binds K fd ps []
theorem Df.of {K : PySem.W.Frag} {mg : Str → Option Value} {x : Str} {st : Stmt} {ps : List Str} {f : Addr} {oc : Value} {od an : Option Addr} {osl : Array (Option Value)} {kV doc pm cdv ct : Value}
    (l : K.lookup f = some ⟨oc, od, .func (PySem.W.fnOf x x (defArgs st) (defBody st) (defScope st) .none kV doc pm an cdv ct), osl⟩) (c : PySem.W.codeIn K cdv x = true) (k : PySem.W.keepIn K (.ref f) = true) (m : mg x = some (.ref f))
    (h : ∀ (kV doc pm : Value) (an : Option Addr) (cdv ct : Value) (us : List Value), us.length = ps.length → bindArgs (PySem.W.fnOf x x (defArgs st) (defBody st) (defScope st) .none kV doc pm an cdv ct) ⟨us, []⟩ = pure (ps.zip us)) : Df K mg x st ps :=
  ⟨_, _, fun_mk l c k, m, (fun_mk l c k).binds h⟩
end Toy
namespace Toy
open PySem PySem.Spec PyProof.Rows L2
/-- room for calls, and nothing is being shown (repr, str of containers ask that) -/
structure RoomG (k : Nat) (A : Around) : Prop where
  room : Room k A
  idle : A.guards = some []
theorem RoomG.less {j k : Nat} {A : Around} (r : RoomG k A) (h : j ≤ k) : RoomG j A := ⟨r.room.mono h, r.idle⟩
theorem RoomG.units {k : Nat} {A : Around} (r : RoomG k A) : A.units + 64 < cLine := r.room.units
theorem RoomG.in_ {k : Nat} {A : Around} (r : RoomG (k + 1) A) (env : Env) : RoomG k (A.deeper env) := ⟨r.room.deeper env, r.idle⟩
/-- a def's promise under such a call -/
structure FnG (P : Program) (w : World) (K : PySem.W.Frag) (mg : Str → Option Value) (base : Heap) (CX : CXT) (k : Nat) (f : Addr) (fd : FuncData) (ps : List Str) (sp : Sp) : Prop where
  arity : ∀ vs H Q E, sp vs H Q E → vs.length = ps.length
  go : ∀ {A : Around} {outer : List Env} {s : Shared} {H : Hp} {args : Args} {us : List Value} {vs : List V} {Q : VK} {E : XK}, RoomG k A → Env0 P w K mg base A outer s H →
    BindsTo s fd args (ps.zip us) → Vals vs us → sp vs H Q E → codeAny (model P w) A (.call (.ref f) args) (CR CX outer P w H s Q E) s
section
variable {P : Program} {w : World} {K : PySem.W.Frag} {mg : Str → Option Value} {base : Heap} {CX : CXT}
/-- a body that ends well ends the call well -/
theorem flow_end {N : List Str} {qual : Str} {scope : Scope} {f : Addr} {cd : Value} {A : Around} {outer : List Env} {s : Shared} {H : Hp} {Q : VK} {E : XK} {fl : Flow} {s' : Shared}
    (h : SP (cxOf CX P w K mg base N qual scope f cd A outer s H E) [] { nx := fun _ H' => Q .non H', rt := Q } fl s') :
    ∃ u, (fl = .next ∧ u = Value.none ∨ fl = .ret u) ∧ CE outer P w H s Q u s' := by
  cases fl with
  | next =>
    obtain ⟨σ, H1, J, q⟩ := h
    exact ⟨_, .inl ⟨rfl, rfl⟩, .non, H1, J.os, J.bare, J.base, J.hok, rfl, q⟩
  | ret u =>
    obtain ⟨v, σ, H1, J, r, q⟩ := h
    exact ⟨u, .inr rfl, v, H1, J.os, J.bare, J.base, J.hok, r, q⟩
  | brk =>
    obtain ⟨_, _, _, q⟩ := h
    cases q
  | cont =>
    obtain ⟨_, _, _, q⟩ := h
    cases q
/-- a def of the text, whatever its defaults -/
structure FunA (K : PySem.W.Frag) (x qual : Str) (st : Stmt) (f : Addr) (fd : FuncData) : Prop where
  ex : ∃ (oc : Value) (od : Option Addr) (dV kV doc pm : Value) (an : Option Addr) (cdv ct : Value) (osl : Array (Option Value)),
    fd = PySem.W.fnOf x qual (defArgs st) (defBody st) (defScope st) dV kV doc pm an cdv ct ∧ K.lookup f = some ⟨oc, od, .func fd, osl⟩ ∧ PySem.W.codeIn K cdv qual = true
theorem toA {K : PySem.W.Frag} {x qual : Str} {st : Stmt} {f : Addr} {fd : FuncData} (F : Fun K x qual st f fd) : FunA K x qual st f fd := by
  obtain ⟨oc, od, kV, doc, pm, an, cdv, ct, osl, e, lk, hcd⟩ := F.ex
  exact ⟨⟨oc, od, .none, kV, doc, pm, an, cdv, ct, osl, e, lk, hcd⟩⟩
theorem okGA {x qual : Str} {st : Stmt} {f : Addr} {fd : FuncData} {N ps : List Str} {k : Nat} {sp : Sp} (F : FunA K x qual st f fd) (S : FnScope N ps (defScope st)) (ar : ∀ vs H Q E, sp vs H Q E → vs.length = ps.length)
    (body : ∀ (cdv : Value) (A : Around) (outer : List Env) (s : Shared) (H : Hp) (vs : List V) (Q : VK) (E : XK), RoomG k (A.deeper (envOfC qual (defScope st) s.heap.objs.size f cdv)) → sp vs H Q E →
      ∃ t, PSs (cxOf CX P w K mg base N qual (defScope st) f cdv A outer s H E) (defBody st) t ∧ t { nx := fun _ H' => Q .non H', rt := Q } (start N vs) H) : FnG P w K mg base CX (k + 1) f fd ps sp := by
  obtain ⟨oc, od, dV, kV, doc, pm, an, cdv, ct, osl, rfl, lk, hcd⟩ := F.ex
  refine ⟨ar, ?_⟩
  intro A outer s H args us vs Q E room e0 hb rv hsp
  have kin : K.In s.heap := e0.mod.kin.keeps fun b o z => (e0.bs b o z).1
  have nolim : s.heap.NoLimit := e0.mod.nolimit.keeps fun b o z => (e0.bs b o z).1
  have kinds : ∀ y ∈ ps.zip us, (defScope st).names.lookup y.1 = some .local ∨ ((defScope st).names.lookup y.1 = some .cell ∧ ((cellsFrom (s.heap.objs.size + 1) (defScope st).names []).lookup y.1).isSome = true) := by
    rintro ⟨n, v⟩ hy
    exact (S.par n (List.of_mem_zip hy).1).imp _root_.id fun q => ⟨q, PySem.W.cellsFrom_some _ _ _ (.inl q)⟩
  refine codeAny_call_function room.room.depth (kin _ _ lk) rfl S.co S.gen rfl (PySem.W.codeRec_of kin hcd) (hb _ _ _ _ (wpAny_newFunctionEnv_cells S.kind kinds fun env he s1 inC => ?_))
  subst he
  obtain ⟨t, ht, hq⟩ := body cdv A outer s H vs Q E (room.in_ _) hsp
  refine ⟨nolim.keeps inC.toInCall.keep, codeAny_func (wpAny_mono (ht.run [] s1 (start N vs) H _ (inv_start S room.room.hd e0 (ar _ _ _ _ hsp) rv inC) hq) (fun fl s' z => ?_) fun e s' z => z)⟩
  obtain ⟨u, c, q⟩ := flow_end z
  rcases c with ⟨rfl, rfl⟩ | rfl
  · exact q
  · exact q
theorem okG0A {x qual : Str} {st : Stmt} {f : Addr} {fd : FuncData} {N ps : List Str} {k : Nat} {sp : Sp} (F : FunA K x qual st f fd) (S : FnScope N ps (defScope st)) (ar : ∀ vs H Q E, sp vs H Q E → vs.length = ps.length)
    (body : ∀ (cdv : Value) (A : Around) (outer : List Env) (s : Shared) (H : Hp) (vs : List V) (Q : VK) (E : XK), RoomG k (A.deeper (envOfC qual (defScope st) s.heap.objs.size f cdv)) → sp vs H Q E →
      ∃ t, PSs (cxOf CX0 P w K mg base N qual (defScope st) f cdv A outer s H E).nox (defBody st) t ∧ t { nx := fun _ H' => Q .non H', rt := Q } (start N vs) H) : FnG P w K mg base CX0 (k + 1) f fd ps sp :=
  okGA F S ar fun cdv A outer s H vs Q E hr hsp => (body cdv A outer s H vs Q E hr hsp).imp fun _ z => ⟨z.1.nox, z.2⟩
theorem okG {x qual : Str} {st : Stmt} {f : Addr} {fd : FuncData} {N ps : List Str} {k : Nat} {sp : Sp} (F : Fun K x qual st f fd) (S : FnScope N ps (defScope st)) (ar : ∀ vs H Q E, sp vs H Q E → vs.length = ps.length)
    (body : ∀ (cdv : Value) (A : Around) (outer : List Env) (s : Shared) (H : Hp) (vs : List V) (Q : VK) (E : XK), RoomG k (A.deeper (envOfC qual (defScope st) s.heap.objs.size f cdv)) → sp vs H Q E →
      ∃ t, PSs (cxOf CX P w K mg base N qual (defScope st) f cdv A outer s H E) (defBody st) t ∧ t { nx := fun _ H' => Q .non H', rt := Q } (start N vs) H) : FnG P w K mg base CX (k + 1) f fd ps sp :=
  okGA (toA F) S ar body
theorem okG0 {x qual : Str} {st : Stmt} {f : Addr} {fd : FuncData} {N ps : List Str} {k : Nat} {sp : Sp} (F : Fun K x qual st f fd) (S : FnScope N ps (defScope st)) (ar : ∀ vs H Q E, sp vs H Q E → vs.length = ps.length)
    (body : ∀ (cdv : Value) (A : Around) (outer : List Env) (s : Shared) (H : Hp) (vs : List V) (Q : VK) (E : XK), RoomG k (A.deeper (envOfC qual (defScope st) s.heap.objs.size f cdv)) → sp vs H Q E →
      ∃ t, PSs (cxOf CX0 P w K mg base N qual (defScope st) f cdv A outer s H E).nox (defBody st) t ∧ t { nx := fun _ H' => Q .non H', rt := Q } (start N vs) H) : FnG P w K mg base CX0 (k + 1) f fd ps sp :=
  okG0A (toA F) S ar body
end
section
variable {X : Cx} {CX : CXT} {k : Nat} {f : Addr} {fd : FuncData} {ps : List Str} {sp : Sp}
theorem run_G {pins : List (Addr × Obj)} {σ : L2.St} {H : Hp} {s : Shared} {Q : VK} {E : XK} {us : List Value} {vs : List V} (F : FnG X.prog X.w X.K X.mg X.base CX k f fd ps sp) (hr : RoomG k X.A) (hb : Binds X.K fd ps [])
    (out : ∀ e s', CX X.stack H s E e s' → X.xe e s') (I : Inv X pins σ H s) (r : Vals vs us) (h : sp vs H Q E) : wpAny (model X.prog X.w) X.A (call (.ref f) us) (EP X pins σ Q) X.xe s := by
  have n := (r.length).symm.trans (F.arity _ _ _ _ h)
  have b := hb s us I.kIn (by rw [List.append_nil, n])
  rw [List.append_nil] at b
  refine wpAny_call (codeAny_mono (F.go hr I.env0 b r h) ?_)
  rintro (e | fl) s' q
  · exact out e s' q
  · match fl, q with
    | .ret u, q => exact I.after q
/-- a def and its promise, by its name -/
structure Dn (P : Program) (w : World) (K : PySem.W.Frag) (mg : Str → Option Value) (base : Heap) (k : Nat) (x : Str) (ps : List Str) (sp : Sp) : Prop where
  ex : ∃ f fd, FnG P w K mg base CX0 k f fd ps sp ∧ PySem.W.keepIn K (.ref f) = true ∧ mg x = some (.ref f) ∧ Binds K fd ps []
/-- .. that may raise -/
structure Dx (P : Program) (w : World) (K : PySem.W.Frag) (mg : Str → Option Value) (base : Heap) (k : Nat) (x : Str) (ps : List Str) (sp : Sp) : Prop where
  ex : ∃ f fd, FnG P w K mg base (L2.CX P w) k f fd ps sp ∧ PySem.W.keepIn K (.ref f) = true ∧ mg x = some (.ref f) ∧ Binds K fd ps []
theorem Df.ok {P : Program} {w : World} {K : PySem.W.Frag} {mg : Str → Option Value} {base : Heap} {x : Str} {st : Stmt} (D : Df K mg x st ps)
    (h : ∀ f fd, Fun K x x st f fd → FnG P w K mg base CX0 k f fd ps sp) : Dn P w K mg base k x ps sp := by
  obtain ⟨f, fd, F, m, b⟩ := D.ex
  exact ⟨f, fd, h f fd F, F.kp, m, b⟩
theorem Df.okX {P : Program} {w : World} {K : PySem.W.Frag} {mg : Str → Option Value} {base : Heap} {x : Str} {st : Stmt} (D : Df K mg x st ps)
    (h : ∀ f fd, Fun K x x st f fd → FnG P w K mg base (L2.CX P w) k f fd ps sp) : Dx P w K mg base k x ps sp := by
  obtain ⟨f, fd, F, m, b⟩ := D.ex
  exact ⟨f, fd, h f fd F, F.kp, m, b⟩
variable {x : Str} {p pos : Pos} {e : Expr} {es : List Expr} {t : TA}
theorem pe_cD (D : Dn X.prog X.w X.K X.mg X.base k x ps sp) (hr : RoomG k X.A) (hg : Gl X x) (ha : PA X (e :: es) t) (hdb : (x == ("__debug__" : Str)) = false := by decide)
    (he : starEach (e :: es) X.env = (false, eval e X.env) :: starEach es X.env := by rfl) (hpl : (backTo pos (starEach es X.env)).any (·.1) = false := by rfl) : PE X (.Call (.Name x p) (e :: es) [] pos) (tCall sp [] E0 t) := by
  obtain ⟨f, fd, F, hk, hm, hb⟩ := D.ex
  refine ⟨fun pins s σ H Q I h => wpAny_Call_Name_kw (ld_glob I hg hm (PySem.W.callWith_K (h₀ := X.base) I.ok.mod.kin hk (thn (ha.run pos pins s σ H _ I h) fun us s1 ⟨vs, H1, I1, r, q⟩ => ⟨I1.kIn, ?_⟩) he hpl) hdb)⟩
  have q' : sp vs H1 Q E0 := by
    have z : sp (vs ++ []) H1 Q E0 := q
    rw [List.append_nil] at z
    exact z
  exact run_G F hr hb (fun _ _ z => z.elim) I1 r q'
theorem pe_cD0 (D : Dn X.prog X.w X.K X.mg X.base k x ps sp) (hr : RoomG k X.A) (hg : Gl X x) (hdb : (x == ("__debug__" : Str)) = false := by decide) : PE X (.Call (.Name x p) [] [] pos) (tCall sp [] E0 tNil) := by
  obtain ⟨f, fd, F, hk, hm, hb⟩ := D.ex
  refine ⟨fun pins s σ H Q I h => wpAny_Call_Name_kw (ld_glob I hg hm (PySem.W.callWith_K0 I.kIn hk (run_G (us := []) F hr hb (fun _ _ z => z.elim) I .nil h)) hdb)⟩
/-- a def with defaults: dvs fill up -/
structure Dfd (K : PySem.W.Frag) (mg : Str → Option Value) (x : Str) (st : Stmt) (ps : List Str) (dvs : List V) : Prop where
  ex : ∃ (f : Addr) (fd : FuncData) (ds : List Value), FunA K x x st f fd ∧ PySem.W.keepIn K (.ref f) = true ∧ mg x = some (.ref f) ∧ Binds K fd ps ds ∧ Vals dvs ds
theorem Dfd.of {K : PySem.W.Frag} {mg : Str → Option Value} {x : Str} {st : Stmt} {ps : List Str} {dvs : List V} {f T : Addr} {oc : Value} {od an : Option Addr} {osl : Array (Option Value)} {kV doc pm cdv ct : Value} {o : Obj} {its : List Value} {n m : Nat}
    (l : K.lookup f = some ⟨oc, od, .func (PySem.W.fnOf x x (defArgs st) (defBody st) (defScope st) (.ref T) kV doc pm an cdv ct), osl⟩) (c : PySem.W.codeIn K cdv x = true) (k : PySem.W.keepIn K (.ref f) = true) (mx : mg x = some (.ref f))
    (lT : K.lookup T = some o) (oT : o.data = .seq its.toArray m) (rT : Vals dvs its) (hn : n + dvs.length = ps.length)
    (h : ∀ (us : List Value), us.length = n → ∃ kk, bindArgs (PySem.W.fnOf x x (defArgs st) (defBody st) (defScope st) (.ref T) kV doc pm an cdv ct) ⟨us, []⟩ = seqItems? (.ref T) >>= kk ∧ kk (some its.toArray) = pure (ps.zip (us ++ its))) : Dfd K mg x st ps dvs := by
  refine ⟨f, _, its, ⟨⟨_, _, _, _, _, _, _, _, _, _, rfl, l, c⟩⟩, k, mx, fun s us X hlen => ?_, rT⟩
  have l1 := rT.length
  have l2 : us.length = n := by
    rw [List.length_append] at hlen
    omega
  obtain ⟨kk, e1, e2⟩ := h us l2
  refine BindsTo.of_looks fun M => ?_
  rw [e1]
  exact looks_items X lT oT (.of_pure e2)
/-- .. all parameters given -/
theorem Dfd.ofAll {K : PySem.W.Frag} {mg : Str → Option Value} {x : Str} {st : Stmt} {ps : List Str} {f T : Addr} {oc : Value} {od an : Option Addr} {osl : Array (Option Value)} {kV doc pm cdv ct : Value} {o : Obj} {its : List Value} {n m : Nat}
    (l : K.lookup f = some ⟨oc, od, .func (PySem.W.fnOf x x (defArgs st) (defBody st) (defScope st) (.ref T) kV doc pm an cdv ct), osl⟩) (c : PySem.W.codeIn K cdv x = true) (k : PySem.W.keepIn K (.ref f) = true) (mx : mg x = some (.ref f))
    (lT : K.lookup T = some o) (oT : o.data = .seq its.toArray m) (hn : n = ps.length)
    (h : ∀ (us : List Value), us.length = n → ∃ kk, bindArgs (PySem.W.fnOf x x (defArgs st) (defBody st) (defScope st) (.ref T) kV doc pm an cdv ct) ⟨us, []⟩ = seqItems? (.ref T) >>= kk ∧ kk (some its.toArray) = pure (ps.zip us)) : Dfd K mg x st ps [] := by
  refine ⟨f, _, [], ⟨⟨_, _, _, _, _, _, _, _, _, _, rfl, l, c⟩⟩, k, mx, fun s us X hlen => ?_, .nil⟩
  have l2 : us.length = n := by
    rw [List.append_nil] at hlen
    omega
  obtain ⟨kk, e1, e2⟩ := h us l2
  refine BindsTo.of_looks fun M => ?_
  rw [e1, List.append_nil]
  exact looks_items X lT oT (.of_pure e2)
/-- .. and its promise -/
structure DnD (P : Program) (w : World) (K : PySem.W.Frag) (mg : Str → Option Value) (base : Heap) (k : Nat) (x : Str) (ps : List Str) (dvs : List V) (sp : Sp) : Prop where
  ex : ∃ (f : Addr) (fd : FuncData) (ds : List Value), FnG P w K mg base CX0 k f fd ps sp ∧ PySem.W.keepIn K (.ref f) = true ∧ mg x = some (.ref f) ∧ Binds K fd ps ds ∧ Vals dvs ds
theorem Dfd.ok {P : Program} {w : World} {K : PySem.W.Frag} {mg : Str → Option Value} {base : Heap} {x : Str} {st : Stmt} {dvs : List V} (D : Dfd K mg x st ps dvs)
    (h : ∀ f fd, FunA K x x st f fd → FnG P w K mg base CX0 k f fd ps sp) : DnD P w K mg base k x ps dvs sp := by
  obtain ⟨f, fd, ds, F, kp, m, b, d⟩ := D.ex
  exact ⟨f, fd, ds, h f fd F, kp, m, b, d⟩
theorem run_Gd {pins : List (Addr × Obj)} {σ : L2.St} {H : Hp} {s : Shared} {Q : VK} {E : XK} {us ds : List Value} {vs dvs : List V} (F : FnG X.prog X.w X.K X.mg X.base CX k f fd ps sp) (hr : RoomG k X.A) (hb : Binds X.K fd ps ds) (hd : Vals dvs ds)
    (out : ∀ e s', CX X.stack H s E e s' → X.xe e s') (I : Inv X pins σ H s) (r : Vals vs us) (h : sp (vs ++ dvs) H Q E) : wpAny (model X.prog X.w) X.A (call (.ref f) us) (EP X pins σ Q) X.xe s := by
  have r2 : Vals (vs ++ dvs) (us ++ ds) := r.append hd
  have n : (us ++ ds).length = ps.length := by rw [← r2.length]; exact F.arity _ _ _ _ h
  refine wpAny_call (codeAny_mono (F.go hr I.env0 (hb s us I.kIn n) r2 h) ?_)
  rintro (e | fl) s' q
  · exact out e s' q
  · match fl, q with
    | .ret u, q => exact I.after q
theorem pe_cDd {dvs : List V} (D : DnD X.prog X.w X.K X.mg X.base k x ps dvs sp) (hr : RoomG k X.A) (hg : Gl X x) (ha : PA X (e :: es) t) (hdb : (x == ("__debug__" : Str)) = false := by decide)
    (he : starEach (e :: es) X.env = (false, eval e X.env) :: starEach es X.env := by rfl) (hpl : (backTo pos (starEach es X.env)).any (·.1) = false := by rfl) : PE X (.Call (.Name x p) (e :: es) [] pos) (tCall sp dvs E0 t) := by
  obtain ⟨f, fd, ds, F, hk, hm, hb, hd⟩ := D.ex
  refine ⟨fun pins s σ H Q I h => wpAny_Call_Name_kw (ld_glob I hg hm (PySem.W.callWith_K (h₀ := X.base) I.ok.mod.kin hk (thn (ha.run pos pins s σ H _ I h) fun us s1 ⟨vs, H1, I1, r, q⟩ => ⟨I1.kIn, ?_⟩) he hpl) hdb)⟩
  exact run_Gd F hr hb hd (fun _ _ z => z.elim) I1 r q
/-- a call within a try: what is raised is wished at the slots -/
theorem pe_cX {E : L2.St → XK} (D : Dx X.prog X.w X.K X.mg X.base k x ps sp) (hr : RoomG k X.A) (hg : Gl X x) (hx : ∀ σ, PassesAt (L2.CX X.prog X.w) X σ (E σ)) (ha : PA X (e :: es) t) (hdb : (x == ("__debug__" : Str)) = false := by decide)
    (he : starEach (e :: es) X.env = (false, eval e X.env) :: starEach es X.env := by rfl) (hpl : (backTo pos (starEach es X.env)).any (·.1) = false := by rfl) : PE X (.Call (.Name x p) (e :: es) [] pos) (tCallS sp E t) := by
  obtain ⟨f, fd, F, hk, hm, hb⟩ := D.ex
  exact ⟨fun pins s σ H Q I h => wpAny_Call_Name_kw (ld_glob I hg hm (PySem.W.callWith_K (h₀ := X.base) I.ok.mod.kin hk (thn (ha.run pos pins s σ H _ I h) fun us s1 ⟨vs, H1, I1, r, q⟩ =>
    ⟨I1.kIn, run_G F hr hb (fun e s' z => hx σ pins H1 s1 e s' I1 z) I1 r q⟩) he hpl) hdb)⟩
/-- repr of what is data -/
def rRepr (K : PySem.W.Frag) : List V → Hp → VK → Prop := fun xs H Q => ∃ (x : V) (d : PyData), xs = [x] ∧ Dp K H x d ∧ d.showable = true ∧ d.depth ≤ 60 ∧ d.shown.length ≤ sizeLine ∧ Q (.str d.shown) H
mutual
theorem dp_noDict {K : PySem.W.Frag} {H : Hp} : ∀ (d : PyData) (x : V), Dp K H x d → d.hasDict = false
  | .none, _, _ => rfl
  | .bool _, _, _ => rfl
  | .int _, _, _ => rfl
  | .str _, _, _ => rfl
  | .list ds, _, h => by
    cases h with
    | lst _ ha => simpa [PyData.hasDict] using dp_noDicts ds _ ha
  | .tuple ds, _, h => by
    cases h with
    | tup _ ha => simpa [PyData.hasDict] using dp_noDicts ds _ ha
  | .dict _, _, h => by cases h
theorem dp_noDicts {K : PySem.W.Frag} {H : Hp} : ∀ (ds : List PyData) (xs : List V), DpAll K H xs ds → PyData.hasDictAll ds = false
  | [], _, _ => by simp [PyData.hasDictAll]
  | d :: ds, _, h => by
    cases h with
    | cons a b => simp [PyData.hasDictAll, dp_noDict d _ a, dp_noDicts ds _ b]
end
theorem reprK {K : PySem.W.Frag} (hr : RoomG k X.A) (eK : X.K = K := by rfl) : CallR X (.builtin "repr") (rRepr K) := by
  cases eK
  intro pins s σ H xs us Q I r h
  obtain ⟨x, d, rfl, hd, hs, hdep, hz, q⟩ := h
  obtain ⟨u, rfl, rx⟩ := vals1 r
  obtain ⟨as, rd⟩ := Dp.reads I d x u hd rx
  have hu := hr.units
  have nd := dp_noDict d x hd
  cases hd with
  | non => cases rx; exact PySem.P.repr_of_none ⟨.str _, H, I.tok _, ⟨_, rfl⟩, q⟩
  | bl b => cases rx; exact PySem.P.repr_of_bool ⟨.str _, H, I.tok _, ⟨_, rfl⟩, q⟩
  | int i => obtain ⟨t, rfl⟩ := rx; exact PySem.P.repr_of_int (of_decide_eq_true (by simpa [PyData.showable] using hs)) ⟨.str _, H, I.tok _, ⟨_, rfl⟩, q⟩
  | str z => obtain ⟨t, rfl⟩ := rx; exact PySem.P.repr_of_str ⟨.str _, H, I.tok _, ⟨_, rfl⟩, q⟩ hz
  | lst hq ha =>
    cases rx
    refine repr_of_reads' rd hs (PyData.noDict_hsm nd) hr.idle (by omega) (fun _ _ z => z) (fun h' u tk hk => ⟨.str _, H, I.kept hk, ⟨_, rfl⟩, q⟩) hz
  | tup hq ha =>
    cases rx
    refine repr_of_reads' rd hs (PyData.noDict_hsm nd) hr.idle (by omega) (fun _ _ z => z) (fun h' u tk hk => ⟨.str _, H, I.kept hk, ⟨_, rfl⟩, q⟩) hz
end
end Toy
namespace Toy
open PySem PySem.Spec PyProof.Rows L2
/-- what was tracked stays, but for one object -/
def But (p : Addr) (H H' : Hp) : Prop := ∀ b o, b ≠ p → H b = some o → H' b = some o
theorem But.refl {p : Addr} {H : Hp} : But p H H := fun _ _ _ h => h
theorem But.trans {p : Addr} {H H1 H2 : Hp} (a : But p H H1) (b : But p H1 H2) : But p H H2 := fun c o n h => b c o n (a c o n h)
theorem But.free {p : Addr} {H H' : Hp} (e : But p H H') {l : Addr} (n : l ≠ p) (h : H' l = Option.none) : H l = Option.none := by
  cases q : H l with
  | none => rfl
  | some o =>
    rw [e l o n q] at h
    cases h
theorem same_but {p : Addr} {H H' : Hp} (a : Same H H') : But p H H' := fun c o _ h => a c o h
theorem But.upd {p : Addr} {H : Hp} {o : HO} : But p H (upd H p o) := fun b u n h => by rw [upd_ne n]; exact h
theorem same_new {H : Hp} {p : Addr} (h : H p = none) (o : HO) : Same H (upd H p o) := fun b u q => by rw [upd_ne (ne_of_none q h)]; exact q
theorem but_tup {p : Addr} {K : PySem.W.Frag} {H H' : Hp} {a : Addr} {xs ys : List V} (e : But p H H') (hp : H p = some (.lst ys)) (h : SqT K H a xs) : SqT K H' a xs := by
  rcases h with (h | ⟨o, h⟩) | h
  · exact .inl (.inl (e _ _ (ne_of h hp (by intro z; cases z)) h))
  · exact .inl (.inr ⟨o, e _ _ (ne_of h hp (by intro z; cases z)) h⟩)
  · exact .inr h
theorem same_tup {K : PySem.W.Frag} {H H' : Hp} {a : Addr} {xs : List V} (e : Same H H') (h : SqT K H a xs) : SqT K H' a xs := by
  rcases h with (h | ⟨o, h⟩) | h
  · exact .inl (.inl (e _ _ h))
  · exact .inl (.inr ⟨o, e _ _ h⟩)
  · exact .inr h
/-- the script stays -/
theorem but_seq {p : Addr} {K : PySem.W.Frag} {H H' : Hp} {a : Addr} {xs : List V} (e : But p H H') (n : a ≠ p) (h : SqL K H a xs) : SqL K H' a xs := by
  rcases h with (h | ⟨o, h⟩) | h
  · exact .inl (.inl (e _ _ n h))
  · exact .inl (.inr ⟨o, e _ _ n h⟩)
  · exact .inr h
theorem small {n : Nat} (h : n ≤ 1000) : n ≤ sizeLine := Nat.le_of_lt (small1000 h)
theorem log_lt {i : Int} {n : Nat} (h0 : 0 < n) (h : i.natAbs < 2 ^ n) : i.natAbs.log2 < n := PySem.Flt.log2_lt_of h0 h
theorem divp_small {i j : Int} (hj : 0 < j) (h : j < 2 ^ 8000) : CDivP i j := by
  refine ⟨hj, PyProof.noPylong_of_log2 ?_⟩
  exact Nat.lt_trans (log_lt (n := 8000) (by decide) (by omega)) (by decide)
end Toy
namespace Toy
open PySem PySem.Spec PyProof.Rows L2
theorem ifT {c : Bool} {A B : Prop} (hc : c = true) (h : A) : if c = true then A else B := by rw [if_pos hc]; exact h
theorem ifF {c : Bool} {A B : Prop} (hc : c = false) (h : B) : if c = true then A else B := by rw [hc]; exact iteF h
theorem pj {j : Int} (h : decide ((0 : Int) < j) = true := by decide) : 0 < j := of_decide_eq_true h
theorem sz {xs : List V} (h : Nat.ble xs.length 1000 = true := by rfl) : xs.length ≤ sizeLine := small (Nat.le_of_ble_eq_true h)
theorem but_same {p : Addr} {H H1 H2 : Hp} (n : H p = none) (a : Same H H1) (b : But p H1 H2) : Same H H2 := fun c o h => b c o (ne_of_none h n) (a c o h)
/-- two ways of a value meet -/
theorem ifE {ta tb : TE} {σ : L2.St} {H : Hp} {Q : VK} {b : Bool} (R : V → Hp → Prop) (h : ∀ v H', R v H' → Q v H') (h1 : b = true → ∀ Q' : VK, (∀ v H', R v H' → Q' v H') → ta σ H Q') (h2 : b = false → ∀ Q' : VK, (∀ v H', R v H' → Q' v H') → tb σ H Q') :
    if b = true then ta σ H Q else tb σ H Q := by
  cases b with
  | true => exact iteT (h1 rfl Q h)
  | false => exact iteF (h2 rfl Q h)
theorem mulx {i j : Int} (a b : Nat) (ha : i.natAbs < 2 ^ a) (hb : j.natAbs < 2 ^ b) (h : a + b ≤ 134217728 := by decide) : CMulX i j := mulx_ok ha hb h
end Toy
namespace Toy
open PySem PySem.Spec PyProof.Rows L2
theorem qi {Q : VK} {H : Hp} {a b : Int} (q : Q (.int a) H) (e : a = b) : Q (.int b) H := e ▸ q
end Toy
namespace Toy
open PySem PySem.Spec PyProof.Rows L2
/-- the written part by its letter -/
theorem kk {α : Sort _} {P : α → Prop} {F : PySem.W.Frag → α} {K0 K : PySem.W.Frag} (h : P (F K0)) (e : K0 = K := by rfl) : P (F K) := e ▸ h
def rLen (K : PySem.W.Frag) : List V → Hp → VK → Prop := fun xs H Q => ∃ p ys, xs = [.ref p] ∧ (SqL K H p ys ∨ SqT K H p ys) ∧ Q (.int ys.length) H
theorem lenK {X : Cx} {K : PySem.W.Frag} (e : X.K = K := by rfl) : CallR X (.builtin "len") (rLen K) := by cases e; exact call_len_seq
def rLstOf (K : PySem.W.Frag) : List V → Hp → VK → Prop := fun xs H Q => ∃ p ys, xs = [.ref p] ∧ (SqL K H p ys ∨ SqT K H p ys) ∧ ∀ l, H l = none → Q (.ref l) (upd H l (.lst ys))
theorem lstOfK {X : Cx} {K : PySem.W.Frag} (e : X.K = K := by rfl) : CallR X (.type "list") (rLstOf K) := by cases e; exact call_list_of
def rTupOf (K : PySem.W.Frag) : List V → Hp → VK → Prop := fun xs H Q => ∃ p ys, xs = [.ref p] ∧ ((SqL K H p ys ∧ ∀ l, H l = none → Q (.ref l) (upd H l (.tup ys))) ∨ (SqT K H p ys ∧ Q (.ref p) H))
theorem tupOfK {X : Cx} {K : PySem.W.Frag} (e : X.K = K := by rfl) : CallR X (.type "tuple") (rTupOf K) := by cases e; exact call_tuple_of
theorem dec_ne {α : Type} [DecidableEq α] {a b : α} (h : a = b) : (!decide (a = b)) = false := by rw [decide_eq_true h] <;> rfl
end Toy
namespace Toy
open PySem PySem.Spec PyProof.Rows L2
/-- a tuple of the written part; a tuple that never changes -/
def KTup (K : PySem.W.Frag) (a : Addr) (xs : List V) : Prop := ∃ (o : Obj) (its : Array Value) (n : Nat), K.lookup a = some o ∧ o.cls = .type "tuple" ∧ o.data = .seq its n ∧ its.size ≤ sizeLine ∧ Vals xs its.toList
def TupAt (K : PySem.W.Frag) (H : Hp) (a : Addr) (xs : List V) : Prop := H a = some (.tup xs) ∨ KTup K a xs
theorem TupAt.sq {K : PySem.W.Frag} {H : Hp} {a : Addr} {xs : List V} (h : TupAt K H a xs) : SqT K H a xs := by
  rcases h with h | h
  · exact SqT.of h
  · exact .inr h
theorem TupAt.ty {K : PySem.W.Frag} {H : Hp} {a : Addr} {xs : List V} (h : TupAt K H a xs) : TyX K H (.ref a) (.type "tuple") := by
  rcases h with h | ⟨o, its, n, h1, h2, _⟩
  · exact .base (.tup h)
  · exact .kTuple h1 h2
theorem TupAt.same {K : PySem.W.Frag} {H H' : Hp} {a : Addr} {xs : List V} (e : Same H H') (h : TupAt K H a xs) : TupAt K H' a xs := h.imp (e _ _) id
theorem TupAt.but {K : PySem.W.Frag} {H H' : Hp} {a p : Addr} {xs ys : List V} (e : But p H H') (hp : H p = some (.lst ys)) (h : TupAt K H a xs) : TupAt K H' a xs := h.imp (fun h => e _ _ (ne_of h hp (by intro z; cases z)) h) id
end Toy
namespace Toy
open PySem PySem.Spec PyProof.Rows L2
theorem ints_dp {K : PySem.W.Frag} {H : Hp} : ∀ ns : List Int, DpAll K H (ns.map V.int) (ns.map PyData.int)
  | [] => .nil
  | n :: r => .cons (.int n) (ints_dp r)
theorem ints_sh (ns : List Int) : SeqAt.shaped (.list (ns.map PyData.int)) = true := PySem.W.ke_shaped_ints ns
theorem ints_refl (ns : List Int) : PyData.eqv (.list (ns.map PyData.int)) (.list (ns.map PyData.int)) = true := SeqAt.eqv_refl _ (SeqAt.canLay_of_shaped (ints_sh ns))
theorem lst_dp {K : PySem.W.Frag} {H : Hp} {a : Addr} {ns : List Int} (h : SqL K H a (ns.map V.int)) : Dp K H (.ref a) (.list (ns.map PyData.int)) := .lst h (ints_dp ns)
theorem tupI_dp {K : PySem.W.Frag} {H : Hp} {a : Addr} {ns : List Int} (h : SqT K H a (ns.map V.int)) : Dp K H (.ref a) (.tuple (ns.map PyData.int)) := .tup h (ints_dp ns)
theorem tupI_sh (ns : List Int) : SeqAt.shaped (.tuple (ns.map PyData.int)) = true := ints_sh ns
theorem tupI_refl (ns : List Int) : PyData.eqv (.tuple (ns.map PyData.int)) (.tuple (ns.map PyData.int)) = true := SeqAt.eqv_refl _ (SeqAt.canLay_of_shaped (tupI_sh ns))
theorem cut_map (us : List Int) (lo hi : Option Int) : ∃ ws : List Int, cutV (us.map V.int) lo hi = ws.map V.int ∧ ws.length ≤ us.length ∧ ∀ x ∈ ws, x ∈ us := by
  refine ⟨(us.drop (HT.sIx (us.map V.int).length 0 lo)).take (HT.sIx (us.map V.int).length (us.map V.int).length hi - HT.sIx (us.map V.int).length 0 lo), ?_, ?_, fun x hx => List.mem_of_mem_drop (List.mem_of_mem_take hx)⟩
  · unfold cutV; rw [List.map_take, List.map_drop]
  · rw [List.length_take, List.length_drop]; omega
theorem at_map {us : List Int} {i : Nat} {y : V} (h : (us.map V.int)[i]? = some y) : ∃ x : Int, y = .int x ∧ us[i]? = some x := by
  rw [List.getElem?_map] at h
  cases e : us[i]? with
  | none => rw [e] at h; cases h
  | some x => rw [e] at h; exact ⟨x, (Option.some.inj h).symm, rfl⟩
end Toy
namespace Toy
open PySem PySem.Spec PyProof.Rows L2
/-- the heap in which the script alone stands, unless the text's own part holds it -/
def scriptH (K : PySem.W.Frag) (a : Addr) (o : Obj) (ns : List Int) : Hp := fun c => if (K.lookup a).isNone = true ∧ c = a then some (.frz o (.lst (ns.map V.int))) else none
theorem scriptH_none {K : PySem.W.Frag} {a b : Addr} {o : Obj} {ns : List Int} : scriptH K a o ns b = none ∨ (b = a ∧ K.lookup a = none ∧ scriptH K a o ns b = some (.frz o (.lst (ns.map V.int)))) := by
  unfold scriptH
  by_cases c : (K.lookup a).isNone = true ∧ b = a
  · exact .inr ⟨c.2, Option.isNone_iff_eq_none.mp c.1, if_pos c⟩
  · exact .inl (if_neg c)
theorem law_G {P : Program} {w : World} {K : PySem.W.Frag} {mg mb : Str → Option Value} {k : Nat} {fa a : Addr} {fd : FuncData} {x : Str} {sp : Sp} {s : Shared} {vs : List Value} {ns : List Int}
    (KX : K.In s.heap) (hns : s.heap.Ns mainGlobals mg) (hb : s.heap.Ns builtinsNs mb) (hbb : ∀ x : Str, x ≠ "__name__" → mb x = bootBuiltins x) (hlim : s.heap.NoLimit) (hg : s.gens = #[])
    (ha : s.heap.get? a = some { cls := .type "list", data := .seq vs.toArray }) (hi : IntsAre vs ns) (hl : ns.length ≤ sizeLine) (hr : Room k PySem.callerA)
    (F : ∀ base : Heap, K.In base → base.Ns mainGlobals mg → FnG P w K mg base CX0 k fa fd [x] sp) (hbind : ∀ (s : Shared) (u : Value), BindsTo s fd ⟨[u], []⟩ [(x, u)])
    (hsp : ∀ H : Hp, SqL K H a (ns.map V.int) → sp [.ref a] H (fun v _ => v = .bl true) fun _ _ _ => False) :
    codeAny (model P w) PySem.callerA (.call (.ref fa) ⟨[.ref a], []⟩) (fun r s' => r = .ok (.ret (.bool true)) ∧ OldK s.heap s'.heap ∧ s'.os = s.os ∧ AllBare s'.gens) s := by
  let H : Hp := scriptH K a { cls := .type "list", data := .seq vs.toArray } ns
  have hH : ∀ b, H b = none ∨ (b = a ∧ K.lookup a = none ∧ H b = some (.frz { cls := .type "list", data := .seq vs.toArray } (.lst (ns.map V.int)))) := fun b => scriptH_none
  have rv := vals_ints hi
  have hok : HOk P w H s.heap := by
    intro b u e
    rcases hH b with z | ⟨rfl, _, z⟩
    · rw [z] at e; cases e
    · rw [z] at e
      cases e
      exact ⟨ha, by rw [List.length_map]; exact hl, vs, _, rv, ha⟩
  have hS : SqL K H a (ns.map V.int) := by
    cases q : K.lookup a with
    | none => exact .inl (.inr ⟨_, show scriptH K a _ ns a = _ from if_pos ⟨by rw [q] <;> rfl, rfl⟩⟩)
    | some o =>
      have e := KX a o q
      rw [ha] at e
      cases e
      exact .inr ⟨_, vs.toArray, _, q, rfl, rfl, rfl, by rw [List.size_toArray, hi.length]; exact hl, by simpa using rv⟩
  -- what is no list is not the script
  have notA : ∀ {b : Addr} {o : Obj} {es : Array DictEntry} {ep : Nat}, s.heap.get? b = some o → o.data = .dict es ep → H b = none := by
    intro b o es ep e d
    rcases hH b with z | ⟨rfl, _, _⟩
    · exact z
    · rw [ha] at e
      cases e
      cases (show Data.seq vs.toArray _ = Data.dict es ep from d)
  have ns' : ∀ {b : Addr} {m : Str → Option Value}, s.heap.Ns b m → (hidT s.heap H).Ns b m := by
    rintro b m ⟨o, es, ep, e, d, r⟩
    exact ⟨o, es, ep, hidT_get e (notA e d), d, r⟩
  have kin' : K.In (hidT s.heap H) := by
    intro b o e
    refine hidT_get (KX b o e) ?_
    rcases hH b with z | ⟨rfl, q, _⟩
    · exact z
    · rw [q] at e; cases e
  have md : Mod K mg (hidT s.heap H) := ⟨kin', ns' hns, ⟨mb, ns' hb, hbb⟩, hlim.imp fun _ z => ⟨ns' z.1, z.2⟩⟩
  have e0 : Env0 P w K mg (hidT s.heap H) PySem.callerA [] s H := ⟨rfl, md, fun _ _ z => of_hidT z, Nat.le_of_eq (hidT_size _ _), trivial, (by intro b z; cases z), hok, .of_eq hg⟩
  refine codeAny_mono ((F _ kin' (ns' hns)).go (us := [.ref a]) (vs := [.ref a]) ⟨hr, rfl⟩ e0 (hbind s (.ref a)) (.cons rfl .nil) (hsp H hS)) ?_
  rintro (e | fl) s' q
  · exact q.elim
  match fl, q with
  | .ret u, ⟨v, H', os, bare, un, ok', r', q⟩ =>
    have q' : v = .bl true := q
    subst q'
    obtain rfl : u = Value.bool true := r'
    refine ⟨rfl, OldK.of_keep fun b o e => ?_, os, bare⟩
    rcases hH b with z | ⟨_, _, z⟩
    · exact un.keep b o e z (by intro y; cases y) (by intro y; cases y)
    · have z1 := (hok b _ z).1
      have z2 := (ok' b _ (un.frzs b _ _ z)).1
      rw [e] at z1
      cases z1
      exact z2
theorem walk_G {l : PySem.W.OpenLaw} {n k : Nat} {q : Program} {loose : List Str} {XP : (Str → Option Value) → Heap → Prop} {YP : World → Heap → Prop} {d : DefRec} {K : Params → PySem.W.Frag} {sp : PySem.W.Frag → Sp} {x : Str}
    (hn : l.most = some n) (hn2 : n ≤ sizeLine) (hdf : d.params.defaults = []) (hr : Room k PySem.callerA) (hY : ∀ (w : World) (h : Heap), YP w h → (K w.params).In h)
    (F : ∀ (w : World) (mg : Str → Option Value) (fa : Addr) (h : Heap), (K w.params).In h → h.Ns mainGlobals mg → mg d.name = some (.ref fa) →
      ∃ fd : FuncData, (∀ (s : Shared) (u : Value), BindsTo s fd ⟨[u], []⟩ [(x, u)]) ∧ ∀ base : Heap, (K w.params).In base → base.Ns mainGlobals mg → FnG l.prog w (K w.params) mg base CX0 k fa fd [x] (sp (K w.params)))
    (hsp : ∀ (K : PySem.W.Frag) (H : Hp) (a : Addr) (ns : List Int), ns.length ≤ n → SqL K H a (ns.map V.int) → sp K [.ref a] H (fun v _ => v = .bl true) fun _ _ _ => False) :
    PySem.W.WalkO q loose XP YP l.row.toRowW d [] (fun f vs => PySem.call f vs) :=
  Att.attach_call hn hdf fun w s0 s1 mg mb fa o pm cd doc a vs ns G Y ho hd hcd hmg hobj hints hlen hg => by
    have KX := hY w _ Y
    obtain ⟨fd, hbd, hF⟩ := F w mg fa _ KX G.T.g hmg
    exact law_G KX G.T.g G.T.b G.T.builtins G.T.nolimit hg hobj hints (Nat.le_trans hlen hn2) hr hF hbd fun H hS => hsp _ H a ns hlen hS
end Toy
namespace Toy
open PySem PySem.Spec PyProof.Rows L2
/-! ### how long a shown datum is -/
mutual
def cst : PyData → Nat
  | .none => 5
  | .bool _ => 5
  | .int _ => 1921
  | .str x => (reprText x).length
  | .list xs => csts xs + 4
  | .tuple xs => csts xs + 4
  | .dict _ => 0
def csts : List PyData → Nat
  | [] => 0
  | x :: xs => cst x + 4 + csts xs
end
theorem tupT_len (ts : List Str) : (tupleText ts).length ≤ piled ts + 4 := by
  unfold tupleText
  rw [strLen_append, strLen_append]
  have e1 : ((("(" : String) : Str)).length = 1 := rfl
  have e3 : (((if ts.length == 1 then ",)" else ")" : String) : Str)).length ≤ 2 := by split <;> decide +kernel
  by_cases h : ts = []
  · subst h; decide +kernel
  · have := join_length_add ts h; omega
theorem txtFrom_len : ∀ (ts : List Str) (k : Nat) (acc : Str), (textFrom k acc ts).length ≤ acc.length + piled ts
  | [], k, acc => Nat.le_add_right _ _
  | t :: r, k, acc => by
    have h := txtFrom_len r (k + 1) (acc ++ (if k > 0 then ", " else "" : String) ++ t)
    have e : (acc ++ (if k > 0 then ", " else "" : String) ++ t).length = acc.length + (if k > 0 then 2 else 0) + t.length := by
      rw [strLen_append, strLen_append]
      split <;> rfl
    rw [e] at h
    rw [piled_cons]
    have h2 : (textFrom k acc (t :: r)).length = (textFrom (k + 1) (acc ++ (if k > 0 then ", " else "" : String) ++ t) r).length := rfl
    rw [h2]
    have e2 : (if k > 0 then 2 else 0) ≤ 2 := by split <;> omega
    omega
theorem lstT_len (ts : List Str) : (listText ts).length ≤ piled ts + 4 := by
  unfold listText
  rw [strLen_append]
  have h := txtFrom_len ts 0 "["
  have e1 : ((("[" : String) : Str)).length = 1 := rfl
  have e2 : ((("]" : String) : Str)).length = 1 := rfl
  omega
mutual
theorem shown_le : ∀ d : PyData, d.showable = true → d.hasDict = false → d.shown.length ≤ cst d
  | .none, _, _ => by show (("None" : String) : Str).length ≤ 5; decide +kernel
  | .bool b, _, _ => by cases b <;> (show _ ≤ 5; decide +kernel)
  | .int i, h, _ => PyProof.Rows.int_text_len_1921 (of_decide_eq_true (by simpa [PyData.showable] using h))
  | .str x, _, _ => Nat.le_refl _
  | .list ds, h, g => by
    have h1 := showns_le ds (by simpa [PyData.showable] using h) (by simpa [PyData.hasDict] using g)
    have h2 := lstT_len (PyData.shownAll ds)
    show (listText (PyData.shownAll ds)).length ≤ csts ds + 4
    omega
  | .tuple ds, h, g => by
    have h1 := showns_le ds (by simpa [PyData.showable] using h) (by simpa [PyData.hasDict] using g)
    have h2 := tupT_len (PyData.shownAll ds)
    show (tupleText (PyData.shownAll ds)).length ≤ csts ds + 4
    omega
  | .dict _, _, g => by simp [PyData.hasDict] at g
theorem showns_le : ∀ ds : List PyData, PyData.showableAll ds = true → PyData.hasDictAll ds = false → piled (PyData.shownAll ds) ≤ csts ds
  | [], _, _ => Nat.le_refl _
  | d :: ds, h, g => by
    have h1 := shown_le d (by simp [PyData.showableAll] at h; exact h.1) (by simp [PyData.hasDictAll] at g; exact g.1)
    have h2 := showns_le ds (by simp [PyData.showableAll] at h; exact h.2) (by simp [PyData.hasDictAll] at g; exact g.2)
    show piled (d.shown :: PyData.shownAll ds) ≤ _
    rw [piled_cons]
    show _ ≤ cst d + 4 + csts ds
    omega
end
theorem shown_sz {d : PyData} (h : d.showable = true) (g : d.hasDict = false) (c : cst d ≤ 10000000) : d.shown.length ≤ sizeLine :=
  Nat.le_trans (shown_le d h g) (Nat.le_trans c (by decide))
end Toy
namespace Toy
open PySem PySem.Spec PyProof.Rows L2
/-- a list of ints grown by a part of another one -/
theorem ext_cut {L z : Addr} {ws es : List Int} {lo hi : Option Int} {H : Hp} {R : VK} (hL : H L = some (.lst (ws.map V.int))) (hz : H z = some (.lst (cutV (es.map V.int) lo hi))) (hs : ws.length + es.length ≤ 1000)
    (q : ∀ us : List Int, us.length ≤ es.length → (∀ x ∈ us, x ∈ es) → R .non (upd H L (.lst ((ws ++ us).map V.int)))) : rExtend (.ref L) [.ref z] H R := by
  obtain ⟨us, e, h1, h2⟩ := cut_map es lo hi
  rw [e] at hz
  refine ⟨L, z, _, _, rfl, rfl, hL, hz, small (by rw [List.length_map, List.length_map]; omega), ?_⟩
  have := q us h1 h2
  rw [List.map_append] at this
  exact this
theorem rep_len {n : Nat} : ((List.replicate n true).map V.bl).length = n := by rw [List.length_map, List.length_replicate]
theorem rep_snoc {n : Nat} : (List.replicate n true).map V.bl ++ [V.bl true] = (List.replicate (n + 1) true).map V.bl := by rw [List.replicate_succ', List.map_append] <;> rfl
theorem rep_all (n : Nat) : (List.replicate n true).all id = true := by rw [List.all_eq_true]; intro x hx; rw [List.mem_replicate] at hx; exact hx.2
theorem ixn {n j : Nat} (hj : j < n) : ixN n (j : Int) = some j := by
  unfold ixN
  rw [if_pos (by omega), if_pos (by omega)]
  exact congrArg some (Int.toNat_natCast j)
theorem dec_self (a : V) : decide (a = a) = true := decide_eq_true rfl
end Toy
namespace Toy
open PySem PySem.Spec PyProof.Rows L2
/-- a comprehension within a comprehension -/
theorem relabel_kept {env : Env} : ∀ {names : List (Str × NameKind)} {x : Str}, names.lookup x = some .cell ∨ names.lookup x = some .free →
    (names.map fun (n, k) => if (k == NameKind.free && env.scope.kind == .function && env.kindOf n == some .cell) then (n, NameKind.cell) else (n, k)).lookup x = some .cell ∨
    (names.map fun (n, k) => if (k == NameKind.free && env.scope.kind == .function && env.kindOf n == some .cell) then (n, NameKind.cell) else (n, k)).lookup x = some .free
  | [], _, h => by simp at h
  | (n, k) :: r, x, h => by
    have ih := @relabel_kept env r x
    show List.lookup x ((if (k == NameKind.free && env.scope.kind == .function && env.kindOf n == some .cell) = true then (n, NameKind.cell) else (n, k)) :: _) = _ ∨ List.lookup x ((if (k == NameKind.free && env.scope.kind == .function && env.kindOf n == some .cell) = true then (n, NameKind.cell) else (n, k)) :: _) = _
    cases hx : x == n with
    | true =>
      simp only [List.lookup_cons, hx] at h
      by_cases hc : (k == NameKind.free && env.scope.kind == .function && env.kindOf n == some .cell) = true
      · rw [if_pos hc]; exact .inl (by simp [List.lookup_cons, hx])
      · rw [if_neg hc]; simp only [List.lookup_cons, hx]; exact h
    | false =>
      simp only [List.lookup_cons, hx] at h
      by_cases hc : (k == NameKind.free && env.scope.kind == .function && env.kindOf n == some .cell) = true
      · rw [if_pos hc]; simp only [List.lookup_cons, hx]; exact ih h
      · rw [if_neg hc]; simp only [List.lookup_cons, hx]; exact ih h
theorem blkOk_nest {X : Cx} {s : Shared} {H : Hp} {scope1 scope : Scope} {cl : List (Str × Addr)} {C : Addr} {env : Env} {fp : List Addr} {own : List (Str × Nat)} {N : List Str} (hN : X.N = N) (h : blkC N scope1 scope own = true) :
    BlkOk (X.blk s H scope1 (compEnvC scope1 cl C env) fp).N (X.blk s H scope1 (compEnvC scope1 cl C env) fp).env.scope scope own := by
  subst hN
  obtain ⟨h1, h2, h3, h4, h5⟩ := blkOk_by h
  exact ⟨h1, h2, h3, fun y hy e => relabel_kept (h4 y hy e), h5⟩
end Toy
namespace Toy
open PySem PySem.Spec PyProof.Rows L2
/-! ### own classes -/
/-- where a name's class stands -/
def cAt (mg : Str → Option Value) (x : Str) : Addr := match mg x with | some (.ref C) => C | _ => 0
theorem cAt_eq {mg : Str → Option Value} {x : Str} {C : Addr} (h : mg x = some (.ref C)) : cAt mg x = C := by unfold cAt; rw [h]
structure ClsF (K : PySem.W.Frag) (mg : Str → Option Value) (x : Str) (fs : List Str) : Prop where
  mg_ : mg x = some (.ref (cAt mg x))
  cl : Cls K (cAt mg x)
  no : ∀ f ∈ fs, NoAttr K (cAt mg x) f
theorem ClsF.of {K : PySem.W.Frag} {mg : Str → Option Value} {x : Str} {C : Addr} {fs : List Str} (m : mg x = some (.ref C)) (c : Cls K C) (n : ∀ f ∈ fs, NoAttr K C f) : ClsF K mg x fs := by
  have e := cAt_eq m
  exact ⟨by rw [e]; exact m, by rw [e]; exact c, by rw [e]; exact n⟩
/-- a method, by its class -/
structure DfM (K : PySem.W.Frag) (C : Addr) (m q : Str) (st : Stmt) (ps : List Str) : Prop where
  ex : ∃ f fd, Fun K m q st f fd ∧ Meth K C m f ∧ Binds K fd ps []
theorem DfM.of {K : PySem.W.Frag} {mg : Str → Option Value} {x m q : Str} {st : Stmt} {ps : List Str} {f C : Addr} {oc : Value} {od an : Option Addr} {osl : Array (Option Value)} {kV doc pm cdv ct : Value} (hC : mg x = some (.ref C))
    (a : PySem.W.findIn K (.ref C) m = some (some (.ref f))) (i : PySem.W.isFn K (.ref f) = true)
    (l : K.lookup f = some ⟨oc, od, .func (PySem.W.fnOf m q (defArgs st) (defBody st) (defScope st) .none kV doc pm an cdv ct), osl⟩) (c : PySem.W.codeIn K cdv q = true) (k : PySem.W.keepIn K (.ref f) = true)
    (h : ∀ (kV doc pm : Value) (an : Option Addr) (cdv ct : Value) (us : List Value), us.length = ps.length → bindArgs (PySem.W.fnOf m q (defArgs st) (defBody st) (defScope st) .none kV doc pm an cdv ct) ⟨us, []⟩ = pure (ps.zip us)) : DfM K (cAt mg x) m q st ps := by
  rw [cAt_eq hC]
  exact ⟨_, _, fun_mk l c k, ⟨a, i, k⟩, (fun_mk l c k).binds h⟩
structure DnM (P : Program) (w : World) (K : PySem.W.Frag) (mg : Str → Option Value) (base : Heap) (C : Addr) (k : Nat) (m : Str) (ps : List Str) (sp : Sp) : Prop where
  ex : ∃ f fd, FnG P w K mg base CX0 k f fd ps sp ∧ Meth K C m f ∧ Binds K fd ps []
theorem DfM.ok {P : Program} {w : World} {K : PySem.W.Frag} {mg : Str → Option Value} {base : Heap} {C : Addr} {m q : Str} {st : Stmt} {ps : List Str} {k : Nat} {sp : Sp} (D : DfM K C m q st ps)
    (h : ∀ f fd, Fun K m q st f fd → FnG P w K mg base CX0 k f fd ps sp) : DnM P w K mg base C k m ps sp := by
  obtain ⟨f, fd, F, mt, b⟩ := D.ex
  exact ⟨f, fd, h f fd F, mt, b⟩
/-- the maker of a class -/
structure DfI (K : PySem.W.Frag) (C : Addr) (q : Str) (st : Stmt) (ps : List Str) : Prop where
  ex : ∃ f fd, Fun K "__init__" q st f fd ∧ Mk K C f ∧ Binds K fd ps []
theorem DfI.of {K : PySem.W.Frag} {mg : Str → Option Value} {x q : Str} {st : Stmt} {ps : List Str} {f C : Addr} {oc : Value} {od an : Option Addr} {osl : Array (Option Value)} {kV doc pm cdv ct : Value} (hC : mg x = some (.ref C))
    (a : PySem.W.findIn K (.ref C) "__init__" = some (some (.ref f))) (i : PySem.W.isFn K (.ref f) = true)
    (l : K.lookup f = some ⟨oc, od, .func (PySem.W.fnOf "__init__" q (defArgs st) (defBody st) (defScope st) .none kV doc pm an cdv ct), osl⟩) (c : PySem.W.codeIn K cdv q = true) (k : PySem.W.keepIn K (.ref f) = true)
    (mk : PySem.W.makesIn K C = true) (kc : PySem.W.keepIn K (.ref C) = true)
    (h : ∀ (kV doc pm : Value) (an : Option Addr) (cdv ct : Value) (us : List Value), us.length = ps.length → bindArgs (PySem.W.fnOf "__init__" q (defArgs st) (defBody st) (defScope st) .none kV doc pm an cdv ct) ⟨us, []⟩ = pure (ps.zip us)) : DfI K (cAt mg x) q st ps := by
  rw [cAt_eq hC]
  exact ⟨_, _, fun_mk l c k, ⟨mk, a, i, kc⟩, (fun_mk l c k).binds h⟩
structure DnI (P : Program) (w : World) (K : PySem.W.Frag) (mg : Str → Option Value) (base : Heap) (C : Addr) (k : Nat) (ps : List Str) (sp : Sp) : Prop where
  ex : ∃ f fd, FnG P w K mg base CX0 k f fd ps sp ∧ Mk K C f ∧ Binds K fd ps []
theorem DfI.ok {P : Program} {w : World} {K : PySem.W.Frag} {mg : Str → Option Value} {base : Heap} {C : Addr} {q : Str} {st : Stmt} {ps : List Str} {k : Nat} {sp : Sp} (D : DfI K C q st ps)
    (h : ∀ f fd, Fun K "__init__" q st f fd → FnG P w K mg base CX0 k f fd ps sp) : DnI P w K mg base C k ps sp := by
  obtain ⟨f, fd, F, mt, b⟩ := D.ex
  exact ⟨f, fd, h f fd F, mt, b⟩
theorem RoomG.make {k : Nat} {A : Around} (r : RoomG (k + 1) A) (C : Addr) (us : List Value) (kw : List (Str × Value)) : RoomG k (A.under (.builtin "type.__call__" ⟨.ref C :: us, kw⟩)) :=
  ⟨r.room.make C us kw, r.idle⟩
section
variable {X : Cx} {k : Nat} {C : Addr} {ps : List Str} {sp : Sp} {x m : Str} {p pos apos : Pos} {e o : Expr} {es : List Expr} {ta : TE} {t : TA}
theorem pe_mG {pl : Sem Bool} (D : DnM X.prog X.w X.K X.mg X.base C k m ps sp) (c : Cls X.K C) (hr : RoomG k X.A) (he : PE X o ta) (ha : PA X (e :: es) t)
    (hst : starEach (e :: es) X.env = (false, eval e X.env) :: starEach es X.env := by rfl) (hpl : (backTo pos (starEach es X.env)).any (·.1) = false := by rfl)
    (ht : eval (.Call (.Attribute o m apos) (e :: es) [] pos) X.env = (do
      let ov ← eval o X.env
      standAt apos.atName
      let (f, first) ← holding [ov] (getMethod ov m pl)
      callWith pos f first (backTo pos (starEach (e :: es) X.env)) (backToKw pos (keywordEach [] X.env))) := by rfl) :
    PE X (.Call (.Attribute o m apos) (e :: es) [] pos) (tMeth C m sp [] E0 ta t) := by
  obtain ⟨f, fd, F, hm, hb⟩ := D.ex
  refine ⟨fun pins s σ H Q I h => ?_⟩
  refine PySem.W.methodCall_KW (pl := pl) (thn (he.run pins s σ H _ I h) fun u s1 ⟨x, H1, I1, rx, a, dx, fs, ex, ea, l, q⟩ => ?_) ht
  subst ex
  obtain rfl : u = Value.ref a := rx
  refine getmeth_ok I1 ea c hm l ?_
  refine PySem.W.callWith_K (first := [.ref a]) (h₀ := X.base) I.ok.mod.kin hm.kp (thn (ha.run pos pins s1 σ H1 _ I1 q) fun us s2 ⟨vs, H2, I2, r, q2⟩ => ⟨I2.kIn, ?_⟩) hst hpl
  have q' : sp (.ref a :: vs) H2 Q E0 := by
    have z : sp (.ref a :: (vs ++ [])) H2 Q E0 := q2
    rw [List.append_nil] at z
    exact z
  exact run_G (us := .ref a :: us) (vs := .ref a :: vs) F hr hb (fun _ _ z => z.elim) I2 (.cons rfl r) q'
theorem pe_mG0 {pl : Sem Bool} (D : DnM X.prog X.w X.K X.mg X.base C k m ps sp) (c : Cls X.K C) (hr : RoomG k X.A) (he : PE X o ta)
    (ht : eval (.Call (.Attribute o m apos) [] [] pos) X.env = (do
      let ov ← eval o X.env
      standAt apos.atName
      let (f, first) ← holding [ov] (getMethod ov m pl)
      callWith pos f first (backTo pos (starEach [] X.env)) (backToKw pos (keywordEach [] X.env))) := by rfl) :
    PE X (.Call (.Attribute o m apos) [] [] pos) (tMeth C m sp [] E0 ta tNil) := by
  obtain ⟨f, fd, F, hm, hb⟩ := D.ex
  refine ⟨fun pins s σ H Q I h => ?_⟩
  refine PySem.W.methodCall_KW (pl := pl) (thn (he.run pins s σ H _ I h) fun u s1 ⟨x, H1, I1, rx, a, dx, fs, ex, ea, l, q⟩ => ?_) ht
  subst ex
  obtain rfl : u = Value.ref a := rx
  refine getmeth_ok I1 ea c hm l ?_
  exact PySem.W.callWith_K0 (first := [.ref a]) I1.kIn hm.kp (run_G (us := [.ref a]) (vs := [.ref a]) F hr hb (fun _ _ z => z.elim) I1 (.cons rfl .nil) q)
theorem run_mkG {pins : List (Addr × Obj)} {σ : L2.St} {H : Hp} {s : Shared} {Q : VK} {us : List Value} {vs : List V} {f : Addr} {fd : FuncData} (M : Mk X.K C f) (F : FnG X.prog X.w X.K X.mg X.base CX0 k f fd ps sp) (hr : RoomG (k + 1) X.A) (hb : Binds X.K fd ps [])
    (I : Inv X pins σ H s) (r : Vals vs us)
    (h : ∀ x dx, H x = none → H dx = none → dx ≠ x → sp (.ref x :: vs) (upd (upd H dx (.own x)) x (.ins C dx [])) (fun v H2 => v = .non ∧ Q (.ref x) H2) E0) :
    wpAny (model X.prog X.w) X.A (call (.ref C) us) (EP X pins σ Q) X.xe s := by
  have hq := h (s.heap.objs.size + 1) s.heap.objs.size (I.hok.fresh (Nat.le_succ _)) (I.hok.fresh (Nat.le_refl _)) (Nat.ne_of_lt (Nat.lt_succ_self _))
  have I2 := Inv.made (C := C) I
  have r2 : Vals (V.ref (s.heap.objs.size + 1) :: vs) (Value.ref (s.heap.objs.size + 1) :: us) := .cons rfl r
  have hl : (Value.ref (s.heap.objs.size + 1) :: us).length = ps.length := by
    rw [← r2.length]
    exact F.arity _ _ _ _ hq
  have b := hb { s with heap := _ } (Value.ref (s.heap.objs.size + 1) :: us) I2.kIn (by rw [List.append_nil]; exact hl)
  rw [List.append_nil] at b
  refine wpAny_call (make_map (f := f) I.kIn M.makes M.init (beq_iff_eq.mp M.fn) (codeAny_mono (F.go (hr.make C us []) (I2.env0.make C us []) b r2 hq) fun r s' hq' => ?_))
  cases r with
  | error e => exact hq'.elim
  | ok fl =>
    match fl, hq' with
    | .ret u, hq' =>
      obtain ⟨v, H', I3, rv, ev, q3⟩ := I2.after hq'
      subst ev
      exact ⟨rv, ⟨V.ref (s.heap.objs.size + 1), H', I3, rfl, q3⟩⟩
theorem pe_mkG (D : DnI X.prog X.w X.K X.mg X.base C k ps sp) (hr : RoomG (k + 1) X.A) (hg : Gl X x) (hm : X.mg x = some (.ref C)) (ha : PA X (e :: es) t) (hdb : (x == ("__debug__" : Str)) = false := by decide)
    (he : starEach (e :: es) X.env = (false, eval e X.env) :: starEach es X.env := by rfl) (hpl : (backTo pos (starEach es X.env)).any (·.1) = false := by rfl) :
    PE X (.Call (.Name x p) (e :: es) [] pos) (tMake C sp [] E0 t) := by
  obtain ⟨f, fd, F, M, hb⟩ := D.ex
  refine ⟨fun pins s σ H Q I h => ?_⟩
  refine wpAny_Call_Name_kw (ld_glob I hg hm ?_ hdb)
  refine PySem.W.callWith_K (h₀ := X.base) I.ok.mod.kin M.kp (thn (ha.run pos pins s σ H _ I h) fun us s1 ⟨vs, H1, I1, r, q⟩ => ⟨I1.kIn, ?_⟩) he hpl
  exact run_mkG M F hr hb I1 r fun x dx h1 h2 h3 => by
    have z := q x dx h1 h2 h3
    rw [List.append_nil] at z
    exact z
/-- o.f, as a target -/
def gFld (K : PySem.W.Frag) (to : TE) (f : Str) : TG := fun v σ H Q => to σ H fun x H1 => ∃ a C dx fs, x = .ref a ∧ H1 a = some (.ins C dx fs) ∧ Cls K C ∧ NoAttr K C f ∧ fs.length < 1000 ∧ Q σ (upd H1 a (.ins C dx (putF f v fs)))
theorem pg_fld {f : Str} {to : TE} (ho : PE X o to) : PG X (.Attribute o f pos) (gFld X.K to f) := by
  refine ⟨fun pins s σ H v u Q I r h => ?_⟩
  rw [assign_Attribute]
  refine wpAny_bind (wpAny_holding (thn (ho.run pins s σ H _ I h) fun ov s1 ⟨x, H1, I1, rx, a, C, dx, fs, ex, ea, c, n, l, q⟩ => ?_))
  subst ex
  obtain rfl : ov = Value.ref a := rx
  refine wpAny_bind (wpAny_standAt ?_)
  refine wpAny_bind (wpAny_holding (setattr_ok I1 ea c n l r fun s2 I2 => ?_))
  exact wpAny_release ⟨σ, _, I2, q⟩
end
end Toy
namespace Toy
open PySem PySem.Spec PyProof.Rows L2
theorem hp_same {H H' : Hp} {a : Addr} {o : HO} (s : Same H H') (h : H a = some o) : H' a = some o := s _ _ h
theorem hp_at {H H' : Hp} {a : Addr} {o : HO} (h : H a = some o) (s : Same H H') : H' a = some o := s _ _ h
theorem sql_at {K : PySem.W.Frag} {H H' : Hp} {p : Addr} {xs : List V} (h : SqL K H p xs) (s : Same H H') : SqL K H' p xs := s.seq h
theorem sqt_at {K : PySem.W.Frag} {H H' : Hp} {a : Addr} {xs : List V} (h : SqT K H a xs) (s : Same H H') : SqT K H' a xs := same_tup s h
theorem same_bk {H M H' : Hp} (b : Same M H') (a : Same H M) : Same H H' := a.trans b
theorem hp_new {H : Hp} {l a : Addr} {o u : HO} (n : H l = none) (h : H a = some o) : upd H l u a = some o := same_new n u _ _ h
theorem s1k : 1000 ≤ sizeLine := by decide
theorem lk1000 {n : Nat} (h : n ≤ 1000) : n ≤ sizeLine := Nat.le_trans h s1k
theorem lt1000 {n : Nat} (h : n < 1000) : n < sizeLine := Nat.lt_of_lt_of_le h s1k
theorem tyL {K : PySem.W.Frag} {H : Hp} {p : Addr} {xs : List V} (h : H p = some (.lst xs)) : tyV K "list" (.ref p) H := .inl ⟨rfl, xs, SqL.of h⟩
theorem sq_same {K : PySem.W.Frag} {H H' : Hp} {p : Addr} {xs : List V} (s : Same H H') (h : SqL K H p xs) : SqL K H' p xs := s.seq h
theorem newS {H H' : Hp} {l : Addr} {o : HO} (e : upd H l o = H') (n : H l = none) : Same H H' := e ▸ same_new n o
theorem newO {H H' : Hp} {l : Addr} {o : HO} (e : upd H l o = H') : H' l = some o := e ▸ upd_same
end Toy
namespace Toy
open PySem PySem.Spec PyProof.Rows L2
/-! ### what may raise -/
section
variable {X : Cx} {k : Nat} {ps : List Str} {sp : Sp} {x : Str} {p pos : Pos} {e : Expr} {es : List Expr} {t : TA} {W : WX}
theorem cx_no {outer : List Env} {H : Hp} {s : Shared} {e : Value} {s' : Shared} {P : Program} {w : World} (h : L2.CX P w outer H s E0 e s') : False := by
  obtain ⟨_, _, _, _, _, _, _, _, _, _, _, _, z⟩ := h
  exact z.elim
/-- a call that may raise; W takes what is raised -/
theorem pe_cW (D : Dx X.prog X.w X.K X.mg X.base k x ps sp) (hr : RoomG k X.A) (tk : Takes X W) (hg : Gl X x) (ha : PA X (e :: es) t) (hdb : (x == ("__debug__" : Str)) = false := by decide)
    (he : starEach (e :: es) X.env = (false, eval e X.env) :: starEach es X.env := by rfl) (hpl : (backTo pos (starEach es X.env)).any (·.1) = false := by rfl) : PE X (.Call (.Name x p) (e :: es) [] pos) (tCallS sp (WE W) t) := by
  obtain ⟨f, fd, F, hk, hm, hb⟩ := D.ex
  exact ⟨fun pins s σ H Q I h => wpAny_Call_Name_kw (ld_glob I hg hm (PySem.W.callWith_K (h₀ := X.base) I.ok.mod.kin hk (thn (ha.run pos pins s σ H _ I h) fun us s1 ⟨vs, H1, I1, r, q⟩ => ⟨I1.kIn, run_G F hr hb (fun e s' c => passAt tk σ pins H1 s1 e s' I1 c) I1 r q⟩) he hpl) hdb)⟩
theorem pe_cW0 (D : Dx X.prog X.w X.K X.mg X.base k x ps sp) (hr : RoomG k X.A) (tk : Takes X W) (hg : Gl X x) (hdb : (x == ("__debug__" : Str)) = false := by decide) : PE X (.Call (.Name x p) [] [] pos) (tCallS sp (WE W) tNil) := by
  obtain ⟨f, fd, F, hk, hm, hb⟩ := D.ex
  exact ⟨fun pins s σ H Q I h => wpAny_Call_Name_kw (ld_glob I hg hm (PySem.W.callWith_K0 I.kIn hk (run_G (us := []) F hr hb (fun e s' c => passAt tk σ pins H s e s' I c) I .nil h)) hdb)⟩
/-- .. that does not raise here -/
theorem pe_cXn (D : Dx X.prog X.w X.K X.mg X.base k x ps sp) (hr : RoomG k X.A) (hg : Gl X x) (ha : PA X (e :: es) t) (hdb : (x == ("__debug__" : Str)) = false := by decide)
    (he : starEach (e :: es) X.env = (false, eval e X.env) :: starEach es X.env := by rfl) (hpl : (backTo pos (starEach es X.env)).any (·.1) = false := by rfl) : PE X (.Call (.Name x p) (e :: es) [] pos) (tCall sp [] E0 t) := by
  obtain ⟨f, fd, F, hk, hm, hb⟩ := D.ex
  refine ⟨fun pins s σ H Q I h => wpAny_Call_Name_kw (ld_glob I hg hm (PySem.W.callWith_K (h₀ := X.base) I.ok.mod.kin hk (thn (ha.run pos pins s σ H _ I h) fun us s1 ⟨vs, H1, I1, r, q⟩ => ⟨I1.kIn, ?_⟩) he hpl) hdb)⟩
  have q' : sp vs H1 Q E0 := by
    have z : sp (vs ++ []) H1 Q E0 := q
    rw [List.append_nil] at z
    exact z
  exact run_G F hr hb (fun _ _ z => (cx_no z).elim) I1 r q'
/-- a def with defaults that may raise -/
structure DxD (P : Program) (w : World) (K : PySem.W.Frag) (mg : Str → Option Value) (base : Heap) (k : Nat) (x : Str) (ps : List Str) (dvs : List V) (sp : Sp) : Prop where
  ex : ∃ (f : Addr) (fd : FuncData) (ds : List Value), FnG P w K mg base (L2.CX P w) k f fd ps sp ∧ PySem.W.keepIn K (.ref f) = true ∧ mg x = some (.ref f) ∧ Binds K fd ps ds ∧ Vals dvs ds
theorem Dfd.okX {P : Program} {w : World} {K : PySem.W.Frag} {mg : Str → Option Value} {base : Heap} {x : Str} {st : Stmt} {dvs : List V} (D : Dfd K mg x st ps dvs)
    (h : ∀ f fd, FunA K x x st f fd → FnG P w K mg base (L2.CX P w) k f fd ps sp) : DxD P w K mg base k x ps dvs sp := by
  obtain ⟨f, fd, ds, F, kp, m, b, d⟩ := D.ex
  exact ⟨f, fd, ds, h f fd F, kp, m, b, d⟩
theorem pe_cXd {dvs : List V} (D : DxD X.prog X.w X.K X.mg X.base k x ps dvs sp) (hr : RoomG k X.A) (tk : Takes X W) (hg : Gl X x) (ha : PA X (e :: es) t) (hdb : (x == ("__debug__" : Str)) = false := by decide)
    (he : starEach (e :: es) X.env = (false, eval e X.env) :: starEach es X.env := by rfl) (hpl : (backTo pos (starEach es X.env)).any (·.1) = false := by rfl) : PE X (.Call (.Name x p) (e :: es) [] pos) (fun σ H Q => t σ H fun vs H1 => sp (vs ++ dvs) H1 Q (WE W σ)) := by
  obtain ⟨f, fd, ds, F, hk, hm, hb, hd⟩ := D.ex
  exact ⟨fun pins s σ H Q I h => wpAny_Call_Name_kw (ld_glob I hg hm (PySem.W.callWith_K (h₀ := X.base) I.ok.mod.kin hk (thn (ha.run pos pins s σ H _ I h) fun us s1 ⟨vs, H1, I1, r, q⟩ => ⟨I1.kIn, run_Gd F hr hb hd (fun e s' c => passAt tk σ pins H1 s1 e s' I1 c) I1 r q⟩) he hpl) hdb)⟩
theorem pe_cXdn {dvs : List V} (D : DxD X.prog X.w X.K X.mg X.base k x ps dvs sp) (hr : RoomG k X.A) (hg : Gl X x) (ha : PA X (e :: es) t) (hdb : (x == ("__debug__" : Str)) = false := by decide)
    (he : starEach (e :: es) X.env = (false, eval e X.env) :: starEach es X.env := by rfl) (hpl : (backTo pos (starEach es X.env)).any (·.1) = false := by rfl) : PE X (.Call (.Name x p) (e :: es) [] pos) (tCall sp dvs E0 t) := by
  obtain ⟨f, fd, ds, F, hk, hm, hb, hd⟩ := D.ex
  exact ⟨fun pins s σ H Q I h => wpAny_Call_Name_kw (ld_glob I hg hm (PySem.W.callWith_K (h₀ := X.base) I.ok.mod.kin hk (thn (ha.run pos pins s σ H _ I h) fun us s1 ⟨vs, H1, I1, r, q⟩ => ⟨I1.kIn, run_Gd F hr hb hd (fun _ _ z => (cx_no z).elim) I1 r q⟩) he hpl) hdb)⟩
/-- a method that may raise -/
structure DxM (P : Program) (w : World) (K : PySem.W.Frag) (mg : Str → Option Value) (base : Heap) (C : Addr) (k : Nat) (m : Str) (ps : List Str) (sp : Sp) : Prop where
  ex : ∃ f fd, FnG P w K mg base (L2.CX P w) k f fd ps sp ∧ Meth K C m f ∧ Binds K fd ps []
theorem DfM.okX {P : Program} {w : World} {K : PySem.W.Frag} {mg : Str → Option Value} {base : Heap} {C : Addr} {m q : Str} {st : Stmt} (D : DfM K C m q st ps)
    (h : ∀ f fd, Fun K m q st f fd → FnG P w K mg base (L2.CX P w) k f fd ps sp) : DxM P w K mg base C k m ps sp := by
  obtain ⟨f, fd, F, mt, b⟩ := D.ex
  exact ⟨f, fd, h f fd F, mt, b⟩
variable {m : Str} {apos : Pos} {o : Expr} {ta : TE} {C : Addr}
def tMethX (C : Addr) (m : Str) (sp : Sp) (W : WX) (ta : TE) (t : TA) : TE := fun σ H Q => ta σ H fun x H1 => ∃ a dx fs, x = .ref a ∧ H1 a = some (.ins C dx fs) ∧ fs.lookup m = none ∧ t σ H1 fun vs H2 => sp (x :: vs) H2 Q (WE W σ)
theorem pe_mX {pl : Sem Bool} (D : DxM X.prog X.w X.K X.mg X.base C k m ps sp) (c : Cls X.K C) (hr : RoomG k X.A) (tk : Takes X W) (he : PE X o ta) (ha : PA X (e :: es) t)
    (hst : starEach (e :: es) X.env = (false, eval e X.env) :: starEach es X.env := by rfl) (hpl : (backTo pos (starEach es X.env)).any (·.1) = false := by rfl)
    (ht : eval (.Call (.Attribute o m apos) (e :: es) [] pos) X.env = (do
      let ov ← eval o X.env
      standAt apos.atName
      let (f, first) ← holding [ov] (getMethod ov m pl)
      callWith pos f first (backTo pos (starEach (e :: es) X.env)) (backToKw pos (keywordEach [] X.env))) := by rfl) :
    PE X (.Call (.Attribute o m apos) (e :: es) [] pos) (tMethX C m sp W ta t) := by
  obtain ⟨f, fd, F, hm, hb⟩ := D.ex
  refine ⟨fun pins s σ H Q I h => ?_⟩
  refine PySem.W.methodCall_KW (pl := pl) (thn (he.run pins s σ H _ I h) fun u s1 ⟨x, H1, I1, rx, a, dx, fs, ex, ea, l, q⟩ => ?_) ht
  subst ex
  obtain rfl : u = Value.ref a := rx
  refine getmeth_ok I1 ea c hm l ?_
  refine PySem.W.callWith_K (first := [.ref a]) (h₀ := X.base) I.ok.mod.kin hm.kp (thn (ha.run pos pins s1 σ H1 _ I1 q) fun us s2 ⟨vs, H2, I2, r, q2⟩ => ⟨I2.kIn, ?_⟩) hst hpl
  exact run_G (us := .ref a :: us) (vs := .ref a :: vs) F hr hb (fun e s' c => passAt tk σ pins H2 s2 e s' I2 c) I2 (.cons rfl r) q2
theorem pe_mXn {pl : Sem Bool} (D : DxM X.prog X.w X.K X.mg X.base C k m ps sp) (c : Cls X.K C) (hr : RoomG k X.A) (he : PE X o ta) (ha : PA X (e :: es) t)
    (hst : starEach (e :: es) X.env = (false, eval e X.env) :: starEach es X.env := by rfl) (hpl : (backTo pos (starEach es X.env)).any (·.1) = false := by rfl)
    (ht : eval (.Call (.Attribute o m apos) (e :: es) [] pos) X.env = (do
      let ov ← eval o X.env
      standAt apos.atName
      let (f, first) ← holding [ov] (getMethod ov m pl)
      callWith pos f first (backTo pos (starEach (e :: es) X.env)) (backToKw pos (keywordEach [] X.env))) := by rfl) :
    PE X (.Call (.Attribute o m apos) (e :: es) [] pos) (tMeth C m sp [] E0 ta t) := by
  obtain ⟨f, fd, F, hm, hb⟩ := D.ex
  refine ⟨fun pins s σ H Q I h => ?_⟩
  refine PySem.W.methodCall_KW (pl := pl) (thn (he.run pins s σ H _ I h) fun u s1 ⟨x, H1, I1, rx, a, dx, fs, ex, ea, l, q⟩ => ?_) ht
  subst ex
  obtain rfl : u = Value.ref a := rx
  refine getmeth_ok I1 ea c hm l ?_
  refine PySem.W.callWith_K (first := [.ref a]) (h₀ := X.base) I.ok.mod.kin hm.kp (thn (ha.run pos pins s1 σ H1 _ I1 q) fun us s2 ⟨vs, H2, I2, r, q2⟩ => ⟨I2.kIn, ?_⟩) hst hpl
  have q' : sp (.ref a :: vs) H2 Q E0 := by
    have z : sp (.ref a :: (vs ++ [])) H2 Q E0 := q2
    rw [List.append_nil] at z
    exact z
  exact run_G (us := .ref a :: us) (vs := .ref a :: vs) F hr hb (fun _ _ z => (cx_no z).elim) I2 (.cons rfl r) q'
/-- a maker that may raise -/
structure DxI (P : Program) (w : World) (K : PySem.W.Frag) (mg : Str → Option Value) (base : Heap) (C : Addr) (k : Nat) (ps : List Str) (sp : Sp) : Prop where
  ex : ∃ f fd, FnG P w K mg base (L2.CX P w) k f fd ps sp ∧ Mk K C f ∧ Binds K fd ps []
theorem DfI.okX {P : Program} {w : World} {K : PySem.W.Frag} {mg : Str → Option Value} {base : Heap} {C : Addr} {q : Str} {st : Stmt} (D : DfI K C q st ps)
    (h : ∀ f fd, Fun K "__init__" q st f fd → FnG P w K mg base (L2.CX P w) k f fd ps sp) : DxI P w K mg base C k ps sp := by
  obtain ⟨f, fd, F, mt, b⟩ := D.ex
  exact ⟨f, fd, h f fd F, mt, b⟩
theorem run_mkX {pins : List (Addr × Obj)} {σ : L2.St} {H : Hp} {s : Shared} {Q : VK} {E : XK} {us : List Value} {vs : List V} {f : Addr} {fd : FuncData} (M : Mk X.K C f) (F : FnG X.prog X.w X.K X.mg X.base (L2.CX X.prog X.w) k f fd ps sp) (hr : RoomG (k + 1) X.A) (hb : Binds X.K fd ps [])
    (out : ∀ (H2 : Hp) (s2 : Shared) e s', Inv X pins σ H2 s2 → L2.CX X.prog X.w X.stack H2 s2 E e s' → X.xe e s') (I : Inv X pins σ H s) (r : Vals vs us)
    (h : ∀ x dx, H x = none → H dx = none → dx ≠ x → sp (.ref x :: vs) (upd (upd H dx (.own x)) x (.ins C dx [])) (fun v H2 => v = .non ∧ Q (.ref x) H2) E) :
    wpAny (model X.prog X.w) X.A (call (.ref C) us) (EP X pins σ Q) X.xe s := by
  have hq := h (s.heap.objs.size + 1) s.heap.objs.size (I.hok.fresh (Nat.le_succ _)) (I.hok.fresh (Nat.le_refl _)) (Nat.ne_of_lt (Nat.lt_succ_self _))
  have I2 := Inv.made (C := C) I
  have r2 : Vals (V.ref (s.heap.objs.size + 1) :: vs) (Value.ref (s.heap.objs.size + 1) :: us) := .cons rfl r
  have hl : (Value.ref (s.heap.objs.size + 1) :: us).length = ps.length := by
    rw [← r2.length]
    exact F.arity _ _ _ _ hq
  have b := hb { s with heap := _ } (Value.ref (s.heap.objs.size + 1) :: us) I2.kIn (by rw [List.append_nil]; exact hl)
  rw [List.append_nil] at b
  refine wpAny_call (make_map (f := f) I.kIn M.makes M.init (beq_iff_eq.mp M.fn) (codeAny_mono (F.go (hr.make C us []) (I2.env0.make C us []) b r2 hq) fun r s' hq' => ?_))
  cases r with
  | error e => exact out _ _ e s' I2 hq'
  | ok fl =>
    match fl, hq' with
    | .ret u, hq' =>
      obtain ⟨v, H', I3, rv, ev, q3⟩ := I2.after hq'
      subst ev
      exact ⟨rv, ⟨V.ref (s.heap.objs.size + 1), H', I3, rfl, q3⟩⟩
def tMakeX (C : Addr) (sp : Sp) (W : WX) (t : TA) : TE := fun σ H Q => t σ H fun vs H1 => ∀ x dx, H1 x = none → H1 dx = none → dx ≠ x → sp (.ref x :: vs) (upd (upd H1 dx (.own x)) x (.ins C dx [])) (fun v H2 => v = .non ∧ Q (.ref x) H2) (WE W σ)
theorem pe_mkX (D : DxI X.prog X.w X.K X.mg X.base C k ps sp) (hr : RoomG (k + 1) X.A) (tk : Takes X W) (hg : Gl X x) (hm : X.mg x = some (.ref C)) (ha : PA X (e :: es) t) (hdb : (x == ("__debug__" : Str)) = false := by decide)
    (he : starEach (e :: es) X.env = (false, eval e X.env) :: starEach es X.env := by rfl) (hpl : (backTo pos (starEach es X.env)).any (·.1) = false := by rfl) :
    PE X (.Call (.Name x p) (e :: es) [] pos) (tMakeX C sp W t) := by
  obtain ⟨f, fd, F, M, hb⟩ := D.ex
  refine ⟨fun pins s σ H Q I h => ?_⟩
  refine wpAny_Call_Name_kw (ld_glob I hg hm ?_ hdb)
  refine PySem.W.callWith_K (h₀ := X.base) I.ok.mod.kin M.kp (thn (ha.run pos pins s σ H _ I h) fun us s1 ⟨vs, H1, I1, r, q⟩ => ⟨I1.kIn, ?_⟩) he hpl
  exact run_mkX M F hr hb (fun H2 s2 e s' I2 c => passAt tk σ pins H2 s2 e s' I2 c) I1 r q
theorem pe_mkXn (D : DxI X.prog X.w X.K X.mg X.base C k ps sp) (hr : RoomG (k + 1) X.A) (hg : Gl X x) (hm : X.mg x = some (.ref C)) (ha : PA X (e :: es) t) (hdb : (x == ("__debug__" : Str)) = false := by decide)
    (he : starEach (e :: es) X.env = (false, eval e X.env) :: starEach es X.env := by rfl) (hpl : (backTo pos (starEach es X.env)).any (·.1) = false := by rfl) :
    PE X (.Call (.Name x p) (e :: es) [] pos) (tMake C sp [] E0 t) := by
  obtain ⟨f, fd, F, M, hb⟩ := D.ex
  refine ⟨fun pins s σ H Q I h => ?_⟩
  refine wpAny_Call_Name_kw (ld_glob I hg hm ?_ hdb)
  refine PySem.W.callWith_K (h₀ := X.base) I.ok.mod.kin M.kp (thn (ha.run pos pins s σ H _ I h) fun us s1 ⟨vs, H1, I1, r, q⟩ => ⟨I1.kIn, ?_⟩) he hpl
  exact run_mkX M F hr hb (fun _ _ _ _ _ c => (cx_no c).elim) I1 r fun x dx h1 h2 h3 => by
    have z := q x dx h1 h2 h3
    rw [List.append_nil] at z
    exact z
end
/-- bodies that may raise -/
theorem okGX {P : Program} {w : World} {K : PySem.W.Frag} {mg : Str → Option Value} {base : Heap} {x qual : Str} {st : Stmt} {f : Addr} {fd : FuncData} {N ps : List Str} {k : Nat} {sp : Sp} (F : Fun K x qual st f fd) (S : FnScope N ps (defScope st)) (ar : ∀ vs H Q E, sp vs H Q E → vs.length = ps.length)
    (body : ∀ (cdv : Value) (A : Around) (outer : List Env) (s : Shared) (H : Hp) (vs : List V) (Q : VK) (E : XK), RoomG k (A.deeper (envOfC qual (defScope st) s.heap.objs.size f cdv)) → sp vs H Q E →
      ∃ t, PSs (cxOf (L2.CX P w) P w K mg base N qual (defScope st) f cdv A outer s H E) (defBody st) t ∧ t { nx := fun _ H' => Q .non H', rt := Q } (start N vs) H) : FnG P w K mg base (L2.CX P w) (k + 1) f fd ps sp :=
  okGA (toA F) S ar body
/-- a class of errors -/
structure ExcF (K : PySem.W.Frag) (mg : Str → Option Value) (x : Str) : Prop where
  mg_ : mg x = some (.ref (cAt mg x))
  ex : PySem.W.excIn K (cAt mg x) [.type "ValueError", .type "Exception", .type "BaseException", .type "object"] "ValueError.__new__" = true
  kp : PySem.W.keepIn K (.ref (cAt mg x)) = true
  bs : PySem.W.subIn K (.ref (cAt mg x)) (.type "BaseException") = some true
  tp : PySem.W.typeIn K (.ref (cAt mg x)) = some (.type "type")
  is : PySem.W.isClsIn K (cAt mg x) = true
theorem ExcF.of {K : PySem.W.Frag} {mg : Str → Option Value} {x : Str} {C : Addr} (m : mg x = some (.ref C)) (h1 : PySem.W.excIn K C [.type "ValueError", .type "Exception", .type "BaseException", .type "object"] "ValueError.__new__" = true) (h2 : PySem.W.keepIn K (.ref C) = true)
    (h3 : PySem.W.subIn K (.ref C) (.type "BaseException") = some true) (h4 : PySem.W.typeIn K (.ref C) = some (.type "type")) (h5 : PySem.W.isClsIn K C = true) : ExcF K mg x := by
  have e := cAt_eq m
  exact ⟨by rw [e]; exact m, by rw [e]; exact h1, by rw [e]; exact h2, by rw [e]; exact h3, by rw [e]; exact h4, by rw [e]; exact h5⟩
/-- one class stands under another one, or does not -/
def SubF (K : PySem.W.Frag) (mg : Str → Option Value) (x y : Str) (b : Bool) : Prop := PySem.W.subIn K (.ref (cAt mg x)) (.ref (cAt mg y)) = some b
theorem SubF.of {K : PySem.W.Frag} {mg : Str → Option Value} {x y : Str} {C D : Addr} {b : Bool} (m : mg x = some (.ref C)) (m' : mg y = some (.ref D)) (h : PySem.W.subIn K (.ref C) (.ref D) = some b) : SubF K mg x y b := by
  unfold SubF
  rw [cAt_eq m, cAt_eq m']
  exact h
/-- what an except clause asks -/
theorem exm_of {K : PySem.W.Frag} {mg : Str → Option Value} {x y : Str} {b : Bool} (Y : ExcF K mg y) (h : SubF K mg x y b) : PySem.W.exmOne K (.ref (cAt mg x)) (.ref (cAt mg y)) = some b := by
  have e1 : (PySem.W.subIn K (.ref (cAt mg y)) (.type "BaseException") == some true) = true := by rw [Y.bs] <;> rfl
  have e2 : ((PySem.W.clsIn K (cAt mg y)).isSome && PySem.W.typeIn K (.ref (cAt mg y)) == some (.type "type")) = true := by
    have h2' : (PySem.W.clsIn K (cAt mg y)).isSome = true := Y.is
    rw [h2', Y.tp] <;> rfl
  show (if (PySem.W.subIn K (.ref (cAt mg y)) (.type "BaseException") == some true) = true then (if ((PySem.W.clsIn K (cAt mg y)).isSome && PySem.W.typeIn K (.ref (cAt mg y)) == some (.type "type")) = true then PySem.W.subIn K (.ref (cAt mg x)) (.ref (cAt mg y)) else none) else none) = some b
  rw [if_pos e1, if_pos e2]
  exact h
end Toy
namespace Toy
open PySem PySem.Spec PyProof.Rows L2
/-! ### isinstance of a caught error -/
def rIsX (K : PySem.W.Frag) (cls : Value) (d : Option Addr) (a : Addr) : List V → Hp → VK → Prop := fun xs H Q => ∃ (D : Addr) (c : V) (cv : Value) (b : Bool), xs = [.ref a, c] ∧ cls = .ref D ∧ d = none ∧ ExcC K D ∧ ClsV c cv ∧ PySem.W.kitOne K (.ref D) cv = some b ∧ Q (.bl b) H
theorem call_isX {X : Cx} {a : Addr} {cls : Value} {d : Option Addr} {oe : Obj} {pn : List (Addr × Obj)} (hz : Zc cls d oe) (hf : ∃ vs, oe.data = .fields vs) : CallR (X.suite a ((a, oe) :: pn)) (.builtin "isinstance") (rIsX X.K cls d a) := by
  intro pins s σ H xs us Q I r h
  obtain ⟨D, c, cv, b, rfl, rfl, rfl, C, hc, e, q⟩ := h
  exact call_isE C hz hf pins s σ H _ us Q I r ⟨c, cv, b, rfl, fun u ru => hc.eq ru, e, q⟩
/-- .. with a tuple of classes -/
def rIsXT (K : PySem.W.Frag) (cls : Value) (d : Option Addr) (a : Addr) : List V → Hp → VK → Prop := fun xs H Q => ∃ (D tp : Addr) (cs : List V) (us : List Value) (b : Bool), xs = [.ref a, .ref tp] ∧ cls = .ref D ∧ d = none ∧ ExcC K D ∧ H tp = some (.tup cs) ∧ Paired ClsV cs us ∧ PySem.W.kitAny K (.ref D) us = some b ∧ Q (.bl b) H
theorem call_isXT {X : Cx} {a : Addr} {cls : Value} {d : Option Addr} {oe : Obj} {pn : List (Addr × Obj)} (hz : Zc cls d oe) (hf : ∃ vs, oe.data = .fields vs) : CallR (X.suite a ((a, oe) :: pn)) (.builtin "isinstance") (rIsXT X.K cls d a) := by
  intro pins s σ H xs us Q I r h
  obtain ⟨D, tp, cs, ws, b, rfl, rfl, rfl, C, hT, k, e, q⟩ := h
  obtain ⟨u1, u2, rfl, r1, r2⟩ := vals2 r
  cases (show u1 = Value.ref a from r1)
  cases (show u2 = Value.ref tp from r2)
  obtain ⟨hget, _⟩ := I.pin (a, oe) (List.mem_append.mpr (.inl List.mem_cons_self))
  obtain ⟨vs, hv⟩ := hf
  have J : PySem.W.InstAt s.heap a oe D none := by
    obtain ⟨oc, od, oda, osl⟩ := oe
    obtain ⟨h1, h2⟩ := hz
    dsimp only at h1 h2 hv
    subst h1 h2 hv
    exact ⟨hget, rfl, rfl, trivial⟩
  obtain ⟨_, its, rv, o, h1, h2, n, h3⟩ := (show ObjOk (X.suite a ((a, oe) :: pn)).prog (X.suite a ((a, oe) :: pn)).w H s.heap tp (.tup cs) from I.hok tp _ hT)
  have e3 := ClsV.all k rv
  subst e3
  obtain ⟨oc, od, dt, sl⟩ := o
  simp only at h2 h3
  subst h2 h3
  exact PySem.W.kia_tup (PySem.W.handS_kitx_exc C.hg C.hk C.hs C.hd C.ha C.hn C.ht C.hm) I.kIn J h1 e (fun z => nomatch z) fun tk => ⟨.bl b, H, I.kept (t' := tk) fun _ _ z => z, rfl, q⟩
/-- one class, asked by isinstance -/
theorem kitO {K : PySem.W.Frag} {mg : Str → Option Value} {x y : Str} {b : Bool} (Y : ExcF K mg y) (hx : SubF K mg x x true) (h : SubF K mg x y b) : PySem.W.kitOne K (.ref (cAt mg x)) (.ref (cAt mg y)) = some b := by
  unfold PySem.W.kitOne
  by_cases e : (Value.ref (cAt mg x) == Value.ref (cAt mg y)) = true
  · rw [if_pos e]
    have e' : cAt mg x = cAt mg y := Value.ref.inj (beq_iff_eq.mp e)
    unfold SubF at h hx
    rw [← e', hx] at h
    exact h
  · rw [if_neg e]
    have e2 : ((PySem.W.clsIn K (cAt mg y)).isSome && PySem.W.typeIn K (.ref (cAt mg y)) == some (.type "type")) = true := by
      have h2' : (PySem.W.clsIn K (cAt mg y)).isSome = true := Y.is
      rw [h2', Y.tp] <;> rfl
    show (if ((PySem.W.clsIn K (cAt mg y)).isSome && PySem.W.typeIn K (.ref (cAt mg y)) == some (.type "type")) = true then PySem.W.subIn K (.ref (cAt mg x)) (.ref (cAt mg y)) else none) = some b
    rw [if_pos e2]
    exact h
structure ExcI (K : PySem.W.Frag) (mg : Str → Option Value) (x : Str) : Prop where
  c : ExcC K (cAt mg x)
  ve : PySem.W.subIn K (.ref (cAt mg x)) (.type "ValueError") = some true
theorem ExcI.of {K : PySem.W.Frag} {mg : Str → Option Value} {x : Str} {C : Addr} (m : mg x = some (.ref C)) (h : ExcC K C) (v : PySem.W.subIn K (.ref C) (.type "ValueError") = some true) : ExcI K mg x := by
  have e := cAt_eq m
  exact ⟨by rw [e]; exact h, by rw [e]; exact v⟩
theorem kitVE {K : PySem.W.Frag} {mg : Str → Option Value} {x : Str} (h : ExcI K mg x) : PySem.W.kitOne K (.ref (cAt mg x)) (.type "ValueError") = some true := by
  unfold PySem.W.kitOne
  have e : ¬ (Value.ref (cAt mg x) == Value.type "ValueError") = true := fun z => by cases (beq_iff_eq.mp z)
  rw [if_neg e]
  show (if PySem.W.kitMeta "ValueError" = true then PySem.W.subIn K (.ref (cAt mg x)) (.type "ValueError") else none) = some true
  rw [if_pos (by decide +kernel)]
  exact h.ve
end Toy
namespace Toy
open PySem PySem.Spec PyProof.Rows L2
theorem kitAnyF {K : PySem.W.Frag} {mg : Str → Option Value} {t : Value} : ∀ {ys : List Str}, (∀ y ∈ ys, PySem.W.kitOne K t (.ref (cAt mg y)) = some false) → PySem.W.kitAny K t (ys.map fun y => Value.ref (cAt mg y)) = some false
  | [], _ => kitAny_nil
  | y :: ys, h => kitAny_cons (h y List.mem_cons_self) (fun _ => kitAnyF fun z hz => h z (List.mem_cons_of_mem _ hz)) (fun z => by cases z)
theorem pairOwn {mg : Str → Option Value} : ∀ ys : List Str, Paired ClsV (ys.map fun y => V.ref (cAt mg y)) (ys.map fun y => Value.ref (cAt mg y))
  | [] => .nil
  | y :: ys => .cons (.own _) (pairOwn ys)
end Toy
namespace Toy
open PySem PySem.Spec PyProof.Rows L2
section
variable {X : Cx} {i k1 k2 : Nat} {x : Str} {p pos : Pos} {e : Expr} {es : List Expr} {t : TA} {W : WX}
/-- a local that holds one of two defs, called; both may raise -/
def tCvW (i : Nat) (f1 f2 : Addr) (sp1 sp2 : Sp) (W : WX) (t : TA) : TE := fun σ H Q =>
  (σ[i]? = some (some (.ref f1)) ∧ t σ H fun vs H1 => sp1 vs H1 Q (WE W σ)) ∨ (σ[i]? = some (some (.ref f2)) ∧ t σ H fun vs H1 => sp2 vs H1 Q (WE W σ))
theorem Dx.mg {P : Program} {w : World} {K : PySem.W.Frag} {mg : Str → Option Value} {base : Heap} {k : Nat} {x : Str} {ps : List Str} {sp : Sp} (D : Dx P w K mg base k x ps sp) : mg x = some (.ref (cAt mg x)) := by
  obtain ⟨f, fd, F, hk, hm, hb⟩ := D.ex
  rw [cAt_eq hm]
  exact hm
theorem pe_cvW {mg : Str → Option Value} {x1 x2 : Str} {ps1 ps2 : List Str} {sp1 sp2 : Sp} (D1 : Dx X.prog X.w X.K mg X.base k1 x1 ps1 sp1) (D2 : Dx X.prog X.w X.K mg X.base k2 x2 ps2 sp2) (r1 : RoomG k1 X.A) (r2 : RoomG k2 X.A) (tk : Takes X W) (ha : PA X (e :: es) t)
    (hN : X.N[i]? = some x := by rfl) (hv : Vis X.env.scope x := by first | exact Or.inl rfl | exact Or.inr (Or.inl rfl) | exact Or.inr (Or.inr rfl)) (hd : (x == ("__debug__" : Str)) = false := by decide) (hcd : (x == ("__classdict__" : Str)) = false := by decide)
    (he : starEach (e :: es) X.env = (false, eval e X.env) :: starEach es X.env := by rfl) (hpl : (backTo pos (starEach es X.env)).any (·.1) = false := by rfl) (em : mg = X.mg := by rfl) :
    PE X (.Call (.Name x p) (e :: es) [] pos) (tCvW i (cAt mg x1) (cAt mg x2) sp1 sp2 W t) := by
  subst em
  have one : ∀ {k : Nat} {y : Str} {ps : List Str} {sp : Sp} (pins : List (Addr × Obj)) (s : Shared) (σ : L2.St) (H : Hp) (Q : VK), Dx X.prog X.w X.K X.mg X.base k y ps sp → RoomG k X.A → Inv X pins σ H s → σ[i]? = some (some (.ref (cAt X.mg y))) →
      (t σ H fun vs H1 => sp vs H1 Q (WE W σ)) → wpAny (model X.prog X.w) X.A (eval (.Call (.Name x p) (e :: es) [] pos) X.env) (EP X pins σ Q) X.xe s := by
    intro k y ps sp pins s σ H Q D hr I hs ht
    obtain ⟨f, fd, F, hk, hm, hb⟩ := D.ex
    rw [cAt_eq hm] at hs
    have look := (pe_var (pos := p) hN hv hd hcd).run pins s σ H (fun v H1 => v = .ref f ∧ H1 = H) I ⟨.ref f, hs, rfl, rfl⟩
    refine wpAny_Call_Name_kw (thn look ?_)
    rintro u s1 ⟨v, H1, I1, q1, rfl, rfl⟩
    cases q1
    have args := ha.run pos pins s1 σ _ _ I1 ht
    refine PySem.W.callWith_K (h₀ := X.base) I.ok.mod.kin hk (thn args ?_) he hpl
    rintro us s2 ⟨vs, H2, I2, r, q⟩
    exact ⟨I2.kIn, run_G F hr hb (fun e s' c => passAt tk σ pins H2 s2 e s' I2 c) I2 r q⟩
  constructor
  rintro pins s σ H Q I (⟨h1, h2⟩ | ⟨h1, h2⟩)
  · exact one pins s σ H Q D1 r1 I h1 h2
  · exact one pins s σ H Q D2 r2 I h1 h2
end
end Toy
namespace Toy
open PySem L2
def top (i : Nat) : Stmt := PySem.Challenge.pw_joinedasks_k37_refused_in_order.main.body.getD i (.Pass ⟨0, 0, 0, 0⟩)
abbrev s_is_whole : Stmt := top 11
theorem sc_is_whole : FnScope ["thing"] ["thing"] (defScope s_is_whole) := ⟨rfl, rfl, rfl, by decide +kernel, rfl, by decide +kernel, by decide +kernel⟩
abbrev s_is_within : Stmt := top 12
theorem sc_is_within : FnScope ["thing", "least", "most"] ["thing", "least", "most"] (defScope s_is_within) := ⟨rfl, rfl, rfl, by decide +kernel, rfl, by decide +kernel, by decide +kernel⟩
abbrev s_want_net : Stmt := top 13
theorem sc_want_net : FnScope ["k", "deepest"] ["k", "deepest"] (defScope s_want_net) := ⟨rfl, rfl, rfl, by decide +kernel, rfl, by decide +kernel, by decide +kernel⟩
abbrev s_is_line : Stmt := top 15
theorem sc_is_line : FnScope ["k", "thing"] ["k", "thing"] (defScope s_is_line) := ⟨rfl, rfl, rfl, by decide +kernel, rfl, by decide +kernel, by decide +kernel⟩
abbrev s_want_hand : Stmt := top 16
theorem sc_want_hand : FnScope ["k", "thing"] ["k", "thing"] (defScope s_want_hand) := ⟨rfl, rfl, rfl, by decide +kernel, rfl, by decide +kernel, by decide +kernel⟩
abbrev s_want_side : Stmt := top 17
theorem sc_want_side : FnScope ["k", "thing"] ["k", "thing"] (defScope s_want_side) := ⟨rfl, rfl, rfl, by decide +kernel, rfl, by decide +kernel, by decide +kernel⟩
abbrev s_line_on_way : Stmt := top 18
theorem sc_line_on_way : FnScope ["k", "hand", "goal", "level", "left"] ["k", "hand", "goal", "level"] (defScope s_line_on_way) := ⟨rfl, rfl, rfl, by decide +kernel, rfl, by decide +kernel, by decide +kernel⟩
abbrev s_figure_in : Stmt := top 19
theorem sc_figure_in : FnScope ["k", "line", "stage"] ["k", "line", "stage"] (defScope s_figure_in) := ⟨rfl, rfl, rfl, by decide +kernel, rfl, by decide +kernel, by decide +kernel⟩
abbrev s_number_without : Stmt := top 20
theorem sc_number_without : FnScope ["k", "line", "stage", "left"] ["k", "line", "stage"] (defScope s_number_without) := ⟨rfl, rfl, rfl, by decide +kernel, rfl, by decide +kernel, by decide +kernel⟩
abbrev s_way : Stmt := top 21
theorem sc_way : FnScope ["k", "hand", "side", "level"] ["k", "hand", "side"] (defScope s_way) := ⟨rfl, rfl, rfl, by decide +kernel, rfl, by decide +kernel, by decide +kernel⟩
abbrev s_switches : Stmt := top 22
theorem sc_switches : FnScope ["k", "hand", "side", "lines", "stage"] ["k", "hand", "side"] (defScope s_switches) := ⟨rfl, rfl, rfl, by decide +kernel, rfl, by decide +kernel, by decide +kernel⟩
abbrev s_meeting : Stmt := top 23
theorem sc_meeting : FnScope ["k", "one", "other", "apart"] ["k", "one", "other"] (defScope s_meeting) := ⟨rfl, rfl, rfl, by decide +kernel, rfl, by decide +kernel, by decide +kernel⟩
abbrev s_parting : Stmt := top 24
theorem sc_parting : FnScope ["k", "one", "other"] ["k", "one", "other"] (defScope s_parting) := ⟨rfl, rfl, rfl, by decide +kernel, rfl, by decide +kernel, by decide +kernel⟩
abbrev s_want_pairs : Stmt := top 25
theorem sc_want_pairs : FnScope ["k", "pairs", "hand", "goal", "one"] ["k", "pairs"] (defScope s_want_pairs) := ⟨rfl, rfl, rfl, by decide +kernel, rfl, by decide +kernel, by decide +kernel⟩
abbrev s_shared_line : Stmt := top 26
theorem sc_shared_line : FnScope ["k", "pairs", "level", "lines", "found", "hand", "goal", "line"] ["k", "pairs"] (defScope s_shared_line) := ⟨rfl, rfl, rfl, by decide +kernel, rfl, by decide +kernel, by decide +kernel⟩
abbrev s_first_shared : Stmt := top 27
theorem sc_first_shared : FnScope ["k", "pairs"] ["k", "pairs"] (defScope s_first_shared) := ⟨rfl, rfl, rfl, by decide +kernel, rfl, by decide +kernel, by decide +kernel⟩
abbrev s_is_setting_row : Stmt := top 29
theorem sc_is_setting_row : FnScope ["k", "thing", "number"] ["k", "thing"] (defScope s_is_setting_row) := ⟨rfl, rfl, rfl, by decide +kernel, rfl, by decide +kernel, by decide +kernel⟩
abbrev s_is_settings : Stmt := top 30
theorem sc_is_settings : FnScope ["k", "thing", "row"] ["k", "thing"] (defScope s_is_settings) := ⟨rfl, rfl, rfl, by decide +kernel, rfl, by decide +kernel, by decide +kernel⟩
abbrev s_want_settings : Stmt := top 31
theorem sc_want_settings : FnScope ["k", "thing"] ["k", "thing"] (defScope s_want_settings) := ⟨rfl, rfl, rfl, by decide +kernel, rfl, by decide +kernel, by decide +kernel⟩
abbrev s_plain_rows : Stmt := top 32
theorem sc_plain_rows : FnScope ["k", "stage"] ["k"] (defScope s_plain_rows) := ⟨rfl, rfl, rfl, by decide +kernel, rfl, by decide +kernel, by decide +kernel⟩
abbrev s_as_settings : Stmt := top 33
theorem sc_as_settings : FnScope ["rows", "row"] ["rows"] (defScope s_as_settings) := ⟨rfl, rfl, rfl, by decide +kernel, rfl, by decide +kernel, by decide +kernel⟩
abbrev s_straight : Stmt := top 34
theorem sc_straight : FnScope ["k"] ["k"] (defScope s_straight) := ⟨rfl, rfl, rfl, by decide +kernel, rfl, by decide +kernel, by decide +kernel⟩
abbrev s_led_from : Stmt := top 35
theorem sc_led_from : FnScope ["k", "settings", "hand", "line", "stage"] ["k", "settings", "hand"] (defScope s_led_from) := ⟨rfl, rfl, rfl, by decide +kernel, rfl, by decide +kernel, by decide +kernel⟩
abbrev s_led : Stmt := top 36
theorem sc_led : FnScope ["k", "settings", "hand"] ["k", "settings"] (defScope s_led) := ⟨rfl, rfl, rfl, by decide +kernel, rfl, by decide +kernel, by decide +kernel⟩
abbrev s_want_sides : Stmt := top 37
theorem sc_want_sides : FnScope ["k", "sides", "goal"] ["k", "sides"] (defScope s_want_sides) := ⟨rfl, rfl, rfl, by decide +kernel, rfl, by decide +kernel, by decide +kernel⟩
abbrev s_settings_by : Stmt := top 38
theorem sc_settings_by : FnScope ["k", "sides", "rows", "hand", "goal", "line", "stage", "crossed"] ["k", "sides"] (defScope s_settings_by) := ⟨rfl, rfl, rfl, by decide +kernel, rfl, by decide +kernel, by decide +kernel⟩
abbrev s_settings_for : Stmt := top 39
theorem sc_settings_for : FnScope ["k", "sides", "found"] ["k", "sides"] (defScope s_settings_for) := ⟨rfl, rfl, rfl, by decide +kernel, rfl, by decide +kernel, by decide +kernel⟩
abbrev s__law_rich : Stmt := top 41
theorem sc__law_rich : FnScope ["_law_cell", "_law_turn", "_law_found", "_law_k", "_law_prime", "_law_seed"] ["_law_cell", "_law_turn"] (defScope s__law_rich) := ⟨rfl, rfl, rfl, by decide +kernel, rfl, by decide +kernel, by decide +kernel⟩
abbrev s__law_purse : Stmt := top 42
theorem sc__law_purse : FnScope ["_law_script", "_law_k", "_law_cell"] ["_law_script", "_law_k"] (defScope s__law_purse) := ⟨rfl, rfl, rfl, by decide +kernel, rfl, by decide +kernel, by decide +kernel⟩
abbrev s__law_take : Stmt := top 43
theorem sc__law_take : FnScope ["_law_purse_here", "_law_many", "_law_digit"] ["_law_purse_here", "_law_many"] (defScope s__law_take) := ⟨rfl, rfl, rfl, by decide +kernel, rfl, by decide +kernel, by decide +kernel⟩
abbrev s__law_number : Stmt := top 44
theorem sc__law_number : FnScope ["_law_thing"] ["_law_thing"] (defScope s__law_number) := ⟨rfl, rfl, rfl, by decide +kernel, rfl, by decide +kernel, by decide +kernel⟩
abbrev s__law_within : Stmt := top 45
theorem sc__law_within : FnScope ["_law_k", "_law_thing"] ["_law_k", "_law_thing"] (defScope s__law_within) := ⟨rfl, rfl, rfl, by decide +kernel, rfl, by decide +kernel, by decide +kernel⟩
abbrev s__law_odd : Stmt := top 46
theorem sc__law_odd : FnScope ["_law_purse_here", "_law_many", "_law_far", "_law_near", "_law_some"] ["_law_purse_here", "_law_many"] (defScope s__law_odd) := ⟨rfl, rfl, rfl, by decide +kernel, rfl, by decide +kernel, by decide +kernel⟩
abbrev s__law_or_odd : Stmt := top 47
theorem sc__law_or_odd : FnScope ["_law_purse_here", "_law_good", "_law_many"] ["_law_purse_here", "_law_good", "_law_many"] (defScope s__law_or_odd) := ⟨rfl, rfl, rfl, by decide +kernel, rfl, by decide +kernel, by decide +kernel⟩
abbrev s__law_settings : Stmt := top 48
theorem sc__law_settings : FnScope ["_law_purse_here", "_law_k", "_law_rows", "_law_stage", "_law_number_here"] ["_law_purse_here", "_law_k"] (defScope s__law_settings) := ⟨rfl, rfl, rfl, by decide +kernel, rfl, by decide +kernel, by decide +kernel⟩
abbrev s__law_put : Stmt := top 49
theorem sc__law_put : FnScope ["_law_row", "_law_at", "_law_thing"] ["_law_row", "_law_at", "_law_thing"] (defScope s__law_put) := ⟨rfl, rfl, rfl, by decide +kernel, rfl, by decide +kernel, by decide +kernel⟩
abbrev s__law_bad_row : Stmt := top 50
theorem sc__law_bad_row : FnScope ["_law_purse_here", "_law_row", "_law_thing", "_law_turn", "_law_alike", "_law_place"] ["_law_purse_here", "_law_row", "_law_thing"] (defScope s__law_bad_row) := ⟨rfl, rfl, rfl, by decide +kernel, rfl, by decide +kernel, by decide +kernel⟩
abbrev s__law_pairs : Stmt := top 51
theorem sc__law_pairs : FnScope ["_law_purse_here", "_law_k", "_law_many", "_law_turn", "_law_row", "_law_place", "_law_hand", "_law_goal", "_law_pair"] ["_law_purse_here", "_law_k"] (defScope s__law_pairs) := ⟨rfl, rfl, rfl, by decide +kernel, rfl, by decide +kernel, by decide +kernel⟩
abbrev s__law_drawn : Stmt := top 52
theorem sc__law_drawn : FnScope ["_law_purse_here", "_law_k", "_law_many", "_law_found", "_law_sides", "_law_settings_here", "_law_turn", "_law_hand"] ["_law_purse_here"] (defScope s__law_drawn) := ⟨rfl, rfl, rfl, by decide +kernel, rfl, by decide +kernel, by decide +kernel⟩
abbrev s__law_are_pairs : Stmt := top 53
theorem sc__law_are_pairs : FnScope ["_law_thing", "_law_one"] ["_law_thing"] (defScope s__law_are_pairs) := ⟨rfl, rfl, rfl, by decide +kernel, rfl, by decide +kernel, by decide +kernel⟩
abbrev s__law_pairs_due : Stmt := top 54
theorem sc__law_pairs_due : FnScope ["_law_k", "_law_pairs_here", "_law_hand", "_law_goal"] ["_law_k", "_law_pairs_here"] (defScope s__law_pairs_due) := ⟨rfl, rfl, rfl, by decide +kernel, rfl, by decide +kernel, by decide +kernel⟩
abbrev s__law_are_sides : Stmt := top 55
theorem sc__law_are_sides : FnScope ["_law_k", "_law_sides", "_law_goal"] ["_law_k", "_law_sides"] (defScope s__law_are_sides) := ⟨rfl, rfl, rfl, by decide +kernel, rfl, by decide +kernel, by decide +kernel⟩
abbrev s__law_are_settings : Stmt := top 56
theorem sc__law_are_settings : FnScope ["_law_k", "_law_thing", "_law_row", "_law_one"] ["_law_k", "_law_thing"] (defScope s__law_are_settings) := ⟨rfl, rfl, rfl, by decide +kernel, rfl, by decide +kernel, by decide +kernel⟩
abbrev s__law_due : Stmt := top 57
theorem sc__law_due : FnScope ["_law_way_of", "_law_drawn_here", "_law_k", "_law_one", "_law_other", "_law_goal", "_law_last", "_law_pairs_here", "_law_sides", "_law_settings_here", "_law_hands", "_law_goals"] ["_law_way_of", "_law_drawn_here"] (defScope s__law_due) := ⟨rfl, rfl, rfl, by decide +kernel, rfl, by decide +kernel, by decide +kernel⟩
abbrev s__law_asked : Stmt := top 58
theorem sc__law_asked : FnScope ["_law_way_of", "_law_drawn_here", "_law_k", "_law_one", "_law_other", "_law_goal", "_law_last", "_law_pairs_here", "_law_sides", "_law_settings_here"] ["_law_way_of", "_law_drawn_here"] (defScope s__law_asked) := ⟨rfl, rfl, rfl, by decide +kernel, rfl, by decide +kernel, by decide +kernel⟩
abbrev s__law_said : Stmt := top 59
theorem sc__law_said : FnScope ["_law_way_of", "_law_drawn_here", "e", "_law_some"] ["_law_way_of", "_law_drawn_here"] (defScope s__law_said) := ⟨rfl, rfl, rfl, by decide +kernel, rfl, by decide +kernel, by decide +kernel⟩
abbrev s_law : Stmt := top 60
theorem sc_law : FnScope ["_law_script", "_law_cell", "_law_purse_here", "_law_turn", "_law_drawn_here", "_law_way_of"] ["_law_script"] (defScope s_law) := ⟨rfl, rfl, rfl, by decide +kernel, rfl, by decide +kernel, by decide +kernel⟩
structure Bl (K : PySem.W.Frag) (mg : Str → Option Value) : Prop where
  ValueError_ : mg "ValueError" = none
  abs_ : mg "abs" = none
  all_ : mg "all" = none
  bool_ : mg "bool" = none
  dict_ : mg "dict" = none
  e_ : mg "e" = none
  enumerate_ : mg "enumerate" = none
  int_ : mg "int" = none
  isinstance_ : mg "isinstance" = none
  len_ : mg "len" = none
  list_ : mg "list" = none
  max_ : mg "max" = none
  min_ : mg "min" = none
  range_ : mg "range" = none
  tuple_ : mg "tuple" = none
  AskError_ : ExcF K mg "AskError"
  NoAsk_ : ExcF K mg "NoAsk"
  NoBoard_ : ExcF K mg "NoBoard"
  NoHand_ : ExcF K mg "NoHand"
  NoNet_ : ExcF K mg "NoNet"
  NoNumber_ : ExcF K mg "NoNumber"
  NoSettings_ : ExcF K mg "NoSettings"
  NoSide_ : ExcF K mg "NoSide"
  TooMany_ : ExcF K mg "TooMany"
  NoNet_AskError_ : SubF K mg "NoNet" "AskError" true
  NoNet_NoAsk_ : SubF K mg "NoNet" "NoAsk" false
  NoNet_NoBoard_ : SubF K mg "NoNet" "NoBoard" false
  NoNet_NoHand_ : SubF K mg "NoNet" "NoHand" false
  NoNet_NoNet_ : SubF K mg "NoNet" "NoNet" true
  NoNet_NoNumber_ : SubF K mg "NoNet" "NoNumber" false
  NoNet_NoSettings_ : SubF K mg "NoNet" "NoSettings" false
  NoNet_NoSide_ : SubF K mg "NoNet" "NoSide" false
  NoNet_TooMany_ : SubF K mg "NoNet" "TooMany" false
  NoHand_AskError_ : SubF K mg "NoHand" "AskError" true
  NoHand_NoAsk_ : SubF K mg "NoHand" "NoAsk" false
  NoHand_NoBoard_ : SubF K mg "NoHand" "NoBoard" false
  NoHand_NoHand_ : SubF K mg "NoHand" "NoHand" true
  NoHand_NoNet_ : SubF K mg "NoHand" "NoNet" false
  NoHand_NoNumber_ : SubF K mg "NoHand" "NoNumber" false
  NoHand_NoSettings_ : SubF K mg "NoHand" "NoSettings" false
  NoHand_NoSide_ : SubF K mg "NoHand" "NoSide" false
  NoHand_TooMany_ : SubF K mg "NoHand" "TooMany" false
  NoSide_AskError_ : SubF K mg "NoSide" "AskError" true
  NoSide_NoAsk_ : SubF K mg "NoSide" "NoAsk" false
  NoSide_NoBoard_ : SubF K mg "NoSide" "NoBoard" false
  NoSide_NoHand_ : SubF K mg "NoSide" "NoHand" false
  NoSide_NoNet_ : SubF K mg "NoSide" "NoNet" false
  NoSide_NoNumber_ : SubF K mg "NoSide" "NoNumber" false
  NoSide_NoSettings_ : SubF K mg "NoSide" "NoSettings" false
  NoSide_NoSide_ : SubF K mg "NoSide" "NoSide" true
  NoSide_TooMany_ : SubF K mg "NoSide" "TooMany" false
  NoSettings_AskError_ : SubF K mg "NoSettings" "AskError" true
  NoSettings_NoAsk_ : SubF K mg "NoSettings" "NoAsk" false
  NoSettings_NoBoard_ : SubF K mg "NoSettings" "NoBoard" false
  NoSettings_NoHand_ : SubF K mg "NoSettings" "NoHand" false
  NoSettings_NoNet_ : SubF K mg "NoSettings" "NoNet" false
  NoSettings_NoNumber_ : SubF K mg "NoSettings" "NoNumber" false
  NoSettings_NoSettings_ : SubF K mg "NoSettings" "NoSettings" true
  NoSettings_NoSide_ : SubF K mg "NoSettings" "NoSide" false
  NoSettings_TooMany_ : SubF K mg "NoSettings" "TooMany" false
  NoNet_i : ExcI K mg "NoNet"
  NoHand_i : ExcI K mg "NoHand"
  NoSide_i : ExcI K mg "NoSide"
  NoSettings_i : ExcI K mg "NoSettings"

end Toy
/-! ### enumerate of a tuple -/
namespace PySem
open Sem (wp)
open AutoSeq1 (wpAny_loadPart')
theorem meets_enumerate_newTu (l : Addr) (items : Array Value) (n : Nat) (dct : Option Addr) (sl : Array (Option Value)) :
    Meets (Builtin.«enumerate.__new__» ⟨[.type "enumerate", .ref l], []⟩) (fun _ R s => s.heap.get? l = some { cls := .type "tuple", dict := dct, data := .seq items n, slots := sl } ∧
      R (.ok (.ret (.ref (s.heap.push { cls := .type "tuple_iterator", data := .fields #[.ref l, .int 0 0] }).objs.size)))
        { s with heap := (s.heap.push { cls := .type "tuple_iterator", data := .fields #[.ref l, .int 0 0] }).push { cls := .type "enumerate", data := .fields #[.none, .bool false, .ref s.heap.objs.size, rawInt 0, .none, .none] } }) :=
  .of_wp fun prog w A R s h => by
    obtain ⟨hp, g, d, tk, os⟩ := s; obtain ⟨hl, h⟩ := h
    have hsub := sub_enumerate
    have hL : Heap.IsTuple (Shared.heap ⟨hp, g, d, tk, os⟩) l items := ⟨_, hl, rfl, n, rfl⟩
    wp_walk using wpAny_loadPart' hl
    refine wpAny_stack_any fun st => wpAny_pure ?_
    split
    · rename_i c _ _ _ _ _
      cases (c == Value.type "enumerate")
      · wp_walk using wpAny_loadPart' hl, wpAny_pyIter_tuple hL
        exact ⟨_, rfl, h⟩
      · wp_walk using wpAny_loadPart' hl, wpAny_pyIter_tuple hL
        exact ⟨_, rfl, h⟩
    · wp_walk using wpAny_loadPart' hl, wpAny_pyIter_tuple hL
      exact ⟨_, rfl, h⟩
theorem call_enumerate_tup {prog : Program} {w : World} {A : Around} {E : Value → Shared → Prop} {s : Shared} {l : Addr} {items : Array Value} {Q : Value → Shared → Prop} (hL : s.heap.IsTuple l items)
    (h : ∀ h', IsEnum h' (s.heap.objs.size + 1) s.heap.objs.size 0 .none → h'.IsTupleIter s.heap.objs.size l 0 → h'.objs.size = s.heap.objs.size + 2 →
      (∀ b o, s.heap.get? b = some o → h'.get? b = some o) → Q (.ref (s.heap.objs.size + 1)) { s with heap := h' }) :
    wpAny (model prog w) A (call (.type "enumerate") [.ref l]) Q E s := by
  obtain ⟨⟨c, dct, dt, sl⟩, hl, hc, n, hd⟩ := hL
  replace hc : c = .type "tuple" := hc
  replace hd : dt = .seq items n := hd
  subst hc hd
  refine callType_new F.called_enumerate (by decide) (F.typeCall_enumerate_1 _) (F.newCall_enumerate_1 _) (fun obj => F.args_object_init_2 obj _) F.entry_enumerate_new
    (meets_enumerate_newTu l items n dct sl) ⟨hl, ?_⟩
  have hz : (s.heap.push { cls := .type "tuple_iterator", data := .fields #[.ref l, .int 0 0] }).objs.size = s.heap.objs.size + 1 := Heap.size_push ..
  show _ ∧ _
  rw [hz]
  have he : IsEnum ((s.heap.push { cls := .type "tuple_iterator", data := .fields #[.ref l, .int 0 0] }).push
      { cls := .type "enumerate", data := .fields #[.none, .bool false, .ref s.heap.objs.size, rawInt 0, .none, .none] }) (s.heap.objs.size + 1) s.heap.objs.size 0 .none := by
    have := Heap.get?_push_size (s.heap.push { cls := .type "tuple_iterator", data := .fields #[.ref l, .int 0 0] })
      (o := { cls := .type "enumerate", data := .fields #[.none, .bool false, .ref s.heap.objs.size, rawInt 0, .none, .none] }) rfl
    rw [hz] at this; exact this
  refine ⟨⟨_, he, rfl⟩, h _ he ⟨_, Heap.get?_push_of_some _ (Heap.get?_push_size _ rfl), rfl, rfl⟩ (by rw [Heap.size_push, hz]) fun b o x => Heap.get?_push_of_some _ (Heap.get?_push_of_some _ x)⟩
end PySem
namespace Toy
open PySem PySem.Spec PyProof.Rows L2
theorem tup_is {h : Heap} {a : Addr} {its : Array Value} (p : IsTup h a its) : h.IsTuple a its := p
/-- the tuple at a as it stands at each turn, each item in a new pair -/
def IteT (K : PySem.W.Frag) (a : Addr) : It :=
  ⟨fun i H => ∃ (xs : List V) (x : V), SqT K H a xs ∧ xs[i]? = some x, fun i H v H' => ∃ T x, v = .ref T ∧ H T = none ∧ H' = upd H T (.tup [.int (i : Nat), x]) ∧ ∀ xs, SqT K H a xs → xs[i]? = some x, fun i H => ∃ xs : List V, SqT K H a xs ∧ xs.length = i⟩
theorem turn_enumTu {P : Program} {w : World} {K : PySem.W.Frag} {elts : List Expr} {kk : Nat} {tpos : Pos} (a e it : Addr) (hai : a ≠ it) :
    Turn P w K (.Tuple elts kk tpos) (IteT K a) [e, it] e (fun i h => (∃ old, IsEnum h e it ((i : Nat) : Int) old) ∧ h.IsTupleIter it a i ∧ e ≠ it ∧ e ≠ a) where
  mem := by simp
  obj := fun i h st b hb => by
    obtain ⟨⟨old, he⟩, ⟨o, ho, hc, hd⟩, _⟩ := st
    have e' : b = e ∨ b = it := by simpa using hb
    rcases e' with z | z
    · rw [z]; exact ⟨_, he, fun v q => nomatch q⟩
    · rw [z]; exact ⟨o, ho, fun v q => by rw [hd] at q; cases q⟩
  keep := fun i h h' st k => let ⟨⟨old, he⟩, hi, hne⟩ := st; ⟨⟨old, k e (by simp) _ he⟩, hi.at fun o q => k it (by simp) o q, hne⟩
  item := by
    intro X hP hw hK hc i pins s σ H E I hf st hg
    subst hP hw hK
    obtain ⟨⟨old, he⟩, hit, hne, hea⟩ := st
    obtain ⟨xs, x, hq, hx⟩ := hg
    obtain ⟨its, rv, p, hz⟩ := I.tuple hq
    obtain ⟨u, hu, ru⟩ := rv.get hx
    have hel : e < s.heap.objs.size := Heap.lt_size he
    have hil : it < s.heap.objs.size := by obtain ⟨_, q, _⟩ := hit; exact Heap.lt_size q
    refine wpAny_pyNext_enum_itemD (Draws.tuple (show X.A.in1.handled = none from I.ok.hd hc) it a hai its.toArray) he ⟨hit, tup_is p⟩ (by have h1 := rv.length; have h2 := (List.getElem?_eq_some_iff.mp hx).1; rw [List.size_toArray]; omega) hne (by simp [hne, hea]) fun x' h' tk hP ho hst' hT hsz hk => ?_
    obtain ⟨hit', ht'⟩ := hst'
    have ex : x' = u := by
      have h1 : its[i]? = some x' := by simpa using hP
      rw [hu] at h1
      exact (Option.some.inj h1).symm
    subst ex
    refine ⟨_, rfl, wpAny_letOwnedTupleGo_enum (s := { s with heap := h', toks := tk + 1 }) ho fun h'' he' sb => ?_⟩
    have hT2 : h''.get? s.heap.objs.size = some { cls := .type "tuple", data := .seq #[.int i tk, x'] } := (sb.2 _ (Nat.ne_of_gt hel)).trans hT
    have new : ObjOk X.prog X.w (upd H s.heap.objs.size (.tup [.int (i : Nat), x])) h'' s.heap.objs.size (.tup [.int (i : Nat), x]) :=
      ⟨by show 2 ≤ sizeLine; decide, [.int i tk, x'], .cons ⟨_, rfl⟩ (.cons ru .nil), ⟨_, hT2, rfl, _, rfl⟩⟩
    have I1 : Inv X pins σ (upd H s.heap.objs.size (.tup [.int (i : Nat), x])) { s with heap := h'', toks := tk + 1 } :=
      I.turnedNew (ch := [e, it]) (fun b ob hb q => (sb.2 b (fun z => hb (by simp [z]))).trans (hk b ob (fun z => hb (by simp [z])) (fun z => hb (by simp [z])) q)) hf (Nat.le_refl _) new
    refine ⟨.ref s.heap.objs.size, _, I1, rfl, ⟨_, x, rfl, I.hok.fresh (Nat.le_refl _), rfl, fun ys hy => by rw [I.tuple_inj hy hq]; exact hx⟩, ⟨⟨x', ?_⟩, hit'.at fun o q => (sb.2 it (Ne.symm hne)).trans q, hne, hea⟩, fun b hb => ?_⟩
    · have e1 : ((i + 1 : Nat) : Int) = (i : Int) + 1 := by omega
      rw [e1]; exact he'
    · have hb' : b < s.heap.objs.size := by
        have e' : b = e ∨ b = it := by simpa using hb
        rcases e' with z | z
        · rw [z]; exact hel
        · rw [z]; exact hil
      rw [upd_ne (Nat.ne_of_lt hb')]
      exact (hf b hb).1
  done := by
    intro X hP hw hK hc i pins s σ H E I hf st hg
    subst hP hw hK
    obtain ⟨⟨old, he⟩, hit, hne, hea⟩ := st
    obtain ⟨xs, hq, hx⟩ := hg
    obtain ⟨its, rv, p, hz⟩ := I.tuple hq
    obtain ⟨f0, f1, f2, f3, f4, f5⟩ := hf it (by simp)
    have hl := rv.length
    have e2 : i = its.toArray.size := by rw [List.size_toArray]; omega
    rw [e2] at hit he
    exact wpAny_pyNext_enum_endD (Draws.tuple (show X.A.in1.handled = none from I.ok.hd hc) it a hai its.toArray) he ⟨hit, tup_is p⟩ fun h' eb => ⟨rfl, I.turned (t' := s.toks) (fun b o hb q => eb b o hb q) f0 f1 f3 f4 f5⟩
  self := fun A i s Q E st h => let ⟨⟨_, he⟩, _⟩ := st; wpAny_pyIter_enum he h
def iEnumT (K : PySem.W.Frag) (ta : TA) : TI := fun σ H R => ta σ H fun vs H1 => ∃ a xs, vs = [.ref a] ∧ SqT K H1 a xs ∧ R (IteT K a) H1
theorem pi_enumT {X : Cx} {e : Expr} {ta : TA} {p pos tpos : Pos} {elts : List Expr} {kk : Nat} (hg : Gl X "enumerate") (hm : X.mg "enumerate" = none) (ha : PA X [e] ta) (hs : starEach [e] X.env = [(false, eval e X.env)] := by rfl) :
    PI X (.Tuple elts kk tpos) (.Call (.Name "enumerate" p) [e] [] pos) (iEnumT X.K ta) := by
  refine ⟨fun pins s σ H R I h => ?_⟩
  refine Call_ (ld_blt I hg hm boot_enumerate (PyProof.Rows.callWith_type1 (thn (ha.run pos pins s σ H _ I h) fun us s1 ⟨vs, H1, I1, r1, q1⟩ => ?_) hs rfl))
  obtain ⟨a, xs, ex, hq, q⟩ := q1
  subst ex
  cases r1 with
  | cons r rr =>
    cases rr
    cases r
    obtain ⟨its, rv, p', hz⟩ := I1.tuple hq
    have hal : a < s1.heap.objs.size := by obtain ⟨o, ho, _⟩ := p'; exact Heap.lt_size ho
    refine call_enumerate_tup (tup_is p') fun h' he hit hsz hk => wpAny_pyIter_enum he ?_
    have I2 : Inv X pins σ H1 { s1 with heap := h' } := I1.kept (t' := s1.toks) hk
    refine ⟨s1.heap.objs.size + 1, [s1.heap.objs.size + 1, s1.heap.objs.size], _, _, H1, rfl, I2, turn_enumTu a (s1.heap.objs.size + 1) s1.heap.objs.size (Nat.ne_of_lt hal), ⟨⟨.none, he⟩, hit, Nat.succ_ne_self _, Nat.ne_of_gt (Nat.lt_succ_of_lt hal)⟩, fun b hb => ?_, q⟩
    have e' : b = s1.heap.objs.size + 1 ∨ b = s1.heap.objs.size := by simpa using hb
    have hle : s1.heap.objs.size ≤ b := by
      rcases e' with z | z
      · rw [z]; exact Nat.le_add_right _ _
      · rw [z]; exact Nat.le_refl _
    exact I1.fpOk hle (I1.hok.fresh hle)
theorem for_enumT {K : PySem.W.Frag} {a : Addr} {xs : List V} {g : TG} {tb : TS} {D : Ends} {σ : L2.St} {H : Hp} (Pv : Nat → L2.St → Hp → Prop) (h0 : Pv 0 σ H) (hl : ∀ i σ H, i ≤ xs.length → Pv i σ H → SqT K H a xs)
    (hs : ∀ (i : Nat) x (T : Addr) σ H, xs[i]? = some x → Pv i σ H → H T = none → g (.ref T) σ (upd H T (.tup [.int i, x])) fun σ2 H2 => tb { D with nx := Pv (i + 1), ct := Pv (i + 1), bk := D.nx } σ2 H2) (hd : ∀ σ H, Pv xs.length σ H → D.nx σ H) :
    ∃ W : Nat → Nat → L2.St → Hp → Prop, (∃ m, W 0 m σ H) ∧ ∀ i m σ H, W i m σ H →
      ((IteT K a).stop i H ∧ D.nx σ H) ∨ ((IteT K a).go i H ∧ ∃ N : L2.St → Hp → Prop, (∀ σ' H', N σ' H' → ∃ m', m' < m ∧ W (i + 1) m' σ' H') ∧ ∀ x H', (IteT K a).yld i H x H' → g x σ H' fun σ2 H2 => tb { D with nx := N, ct := N, bk := D.nx } σ2 H2) := by
  refine ⟨fun i m σ H => m = xs.length - i ∧ i ≤ xs.length ∧ Pv i σ H, ⟨xs.length, by simp, Nat.zero_le _, h0⟩, ?_⟩
  rintro i m σ H ⟨rfl, hi, p⟩
  have q := hl i σ H hi p
  by_cases hlt : i < xs.length
  · refine .inr ⟨⟨xs, xs[i], q, List.getElem?_eq_getElem hlt⟩, Pv (i + 1), fun σ' H' p' => ⟨xs.length - (i + 1), by omega, rfl, hlt, p'⟩, fun x H' y => ?_⟩
    obtain ⟨T, z, rfl, hT, rfl, hz⟩ := y
    exact hs i z T σ H (hz xs q) p hT
  · have e : i = xs.length := by omega
    subst e
    exact .inl ⟨⟨xs, q, rfl⟩, hd σ H p⟩
/-! ### loops over any iterable: the forms one uses -/
theorem lc_it {I : It} {n : Nat} {g : TG} {tt : TT} {te : TE} {vs : List Nat} {σ : L2.St} {H1 : Hp} {D : Addr} {Qd : Hp → Prop} (Pv : Nat → Hp → Prop) (h0 : Pv 0 (upd H1 D (.lst [])))
    (hgo : ∀ i H, i < n → Pv i H → I.go i H) (hst : ∀ H, Pv n H → I.stop n H)
    (hs : ∀ i x H H', i < n → Pv i H → I.yld i H x H' → g x (wipe σ vs) H' fun σ2 H2 => wipe σ2 vs = wipe σ vs ∧ tt σ2 H2 fun b H3 =>
      if b = true then te σ2 H3 fun y H4 => ∃ acc, H4 D = some (.lst acc) ∧ acc.length < sizeLine ∧ Pv (i + 1) (upd H4 D (.lst (acc ++ [y]))) else Pv (i + 1) H3) (hd : ∀ H, Pv n H → Qd H) :
    ∃ W : Nat → Nat → Hp → Prop, (∃ m, W 0 m (upd H1 D (.lst []))) ∧ ∀ i m H, W i m H →
      (I.stop i H ∧ Qd H) ∨ (I.go i H ∧ ∃ Nx : Hp → Prop, (∀ H', Nx H' → ∃ m', m' < m ∧ W (i + 1) m' H') ∧ ∀ x H', I.yld i H x H' → g x (wipe σ vs) H' fun σ2 H2 => wipe σ2 vs = wipe σ vs ∧ tt σ2 H2 fun b H3 =>
        if b = true then te σ2 H3 fun y H4 => ∃ acc, H4 D = some (.lst acc) ∧ acc.length < sizeLine ∧ Nx (upd H4 D (.lst (acc ++ [y]))) else Nx H3) := by
  refine ⟨fun i m H => m = n - i ∧ i ≤ n ∧ Pv i H, ⟨n, by simp, Nat.zero_le _, h0⟩, ?_⟩
  rintro i m H ⟨rfl, hi, p⟩
  by_cases hlt : i < n
  · exact .inr ⟨hgo i H hlt p, Pv (i + 1), fun H' p' => ⟨n - (i + 1), by omega, rfl, hlt, p'⟩, fun x H' y => hs i x H H' hlt p y⟩
  · have e : i = n := by omega
    subst e
    exact .inl ⟨hst H p, hd H p⟩
theorem for_it {I : It} {n : Nat} {g : TG} {tb : TS} {D : Ends} {σ : L2.St} {H : Hp} (Pv : Nat → L2.St → Hp → Prop) (h0 : Pv 0 σ H)
    (hgo : ∀ i σ H, i < n → Pv i σ H → I.go i H) (hst : ∀ σ H, Pv n σ H → I.stop n H)
    (hs : ∀ i x σ H H', i < n → Pv i σ H → I.yld i H x H' → g x σ H' fun σ2 H2 => tb { D with nx := Pv (i + 1), ct := Pv (i + 1), bk := D.nx } σ2 H2) (hd : ∀ σ H, Pv n σ H → D.nx σ H) :
    ∃ W : Nat → Nat → L2.St → Hp → Prop, (∃ m, W 0 m σ H) ∧ ∀ i m σ H, W i m σ H →
      (I.stop i H ∧ D.nx σ H) ∨ (I.go i H ∧ ∃ N : L2.St → Hp → Prop, (∀ σ' H', N σ' H' → ∃ m', m' < m ∧ W (i + 1) m' σ' H') ∧ ∀ x H', I.yld i H x H' → g x σ H' fun σ2 H2 => tb { D with nx := N, ct := N, bk := D.nx } σ2 H2) := by
  refine ⟨fun i m σ H => m = n - i ∧ i ≤ n ∧ Pv i σ H, ⟨n, by simp, Nat.zero_le _, h0⟩, ?_⟩
  rintro i m σ H ⟨rfl, hi, p⟩
  by_cases hlt : i < n
  · exact .inr ⟨hgo i σ H hlt p, Pv (i + 1), fun σ' H' p' => ⟨n - (i + 1), by omega, rfl, hlt, p'⟩, fun x H' y => hs i x σ H H' hlt p y⟩
  · have e : i = n := by omega
    subst e
    exact .inl ⟨hst σ H p, hd σ H p⟩
/-- [.. for i, x in enumerate(xs)] -/
theorem lc_enum {K : PySem.W.Frag} {a : Addr} {xs : List V} {g : TG} {tt : TT} {te : TE} {vs : List Nat} {σ : L2.St} {H1 : Hp} {D : Addr} {Qd : Hp → Prop} (Pv : Nat → Hp → Prop) (h0 : Pv 0 (upd H1 D (.lst []))) (hl : ∀ i H, i ≤ xs.length → Pv i H → SqL K H a xs)
    (hs : ∀ (i : Nat) x (T : Addr) H, xs[i]? = some x → Pv i H → H T = none → g (.ref T) (wipe σ vs) (upd H T (.tup [.int i, x])) fun σ2 H2 => wipe σ2 vs = wipe σ vs ∧ tt σ2 H2 fun b H3 =>
      if b = true then te σ2 H3 fun y H4 => ∃ acc, H4 D = some (.lst acc) ∧ acc.length < sizeLine ∧ Pv (i + 1) (upd H4 D (.lst (acc ++ [y]))) else Pv (i + 1) H3) (hd : ∀ H, Pv xs.length H → Qd H) :
    ∃ W : Nat → Nat → Hp → Prop, (∃ m, W 0 m (upd H1 D (.lst []))) ∧ ∀ i m H, W i m H →
      ((Ite K a).stop i H ∧ Qd H) ∨ ((Ite K a).go i H ∧ ∃ Nx : Hp → Prop, (∀ H', Nx H' → ∃ m', m' < m ∧ W (i + 1) m' H') ∧ ∀ x H', (Ite K a).yld i H x H' → g x (wipe σ vs) H' fun σ2 H2 => wipe σ2 vs = wipe σ vs ∧ tt σ2 H2 fun b H3 =>
        if b = true then te σ2 H3 fun y H4 => ∃ acc, H4 D = some (.lst acc) ∧ acc.length < sizeLine ∧ Nx (upd H4 D (.lst (acc ++ [y]))) else Nx H3) := by
  refine lc_it (I := Ite K a) (n := xs.length) Pv h0 (fun i H hi p => ⟨xs, xs[i], hl i H (Nat.le_of_lt hi) p, List.getElem?_eq_getElem hi⟩) (fun H p => ⟨xs, hl _ H (Nat.le_refl _) p, Nat.le_refl _⟩) ?_ hd
  rintro i x H H' hi p ⟨T, z, rfl, hT, rfl, hz⟩
  exact hs i z T H (hz xs (hl i H (Nat.le_of_lt hi) p)) p hT
theorem for_enum' {K : PySem.W.Frag} {a : Addr} {xs : List V} {g : TG} {tb : TS} {D : Ends} {σ : L2.St} {H : Hp} (Pv : Nat → L2.St → Hp → Prop) (h0 : Pv 0 σ H) (hl : ∀ i σ H, i ≤ xs.length → Pv i σ H → SqL K H a xs)
    (hs : ∀ (i : Nat) x (T : Addr) σ H, xs[i]? = some x → Pv i σ H → H T = none → g (.ref T) σ (upd H T (.tup [.int i, x])) fun σ2 H2 => tb { D with nx := Pv (i + 1), ct := Pv (i + 1), bk := D.nx } σ2 H2) (hd : ∀ σ H, Pv xs.length σ H → D.nx σ H) :
    ∃ W : Nat → Nat → L2.St → Hp → Prop, (∃ m, W 0 m σ H) ∧ ∀ i m σ H, W i m σ H →
      ((Ite K a).stop i H ∧ D.nx σ H) ∨ ((Ite K a).go i H ∧ ∃ N : L2.St → Hp → Prop, (∀ σ' H', N σ' H' → ∃ m', m' < m ∧ W (i + 1) m' σ' H') ∧ ∀ x H', (Ite K a).yld i H x H' → g x σ H' fun σ2 H2 => tb { D with nx := N, ct := N, bk := D.nx } σ2 H2) := by
  refine for_it (I := Ite K a) (n := xs.length) Pv h0 (fun i σ H hi p => ⟨xs, xs[i], hl i σ H (Nat.le_of_lt hi) p, List.getElem?_eq_getElem hi⟩) (fun σ H p => ⟨xs, hl _ σ H (Nat.le_refl _) p, Nat.le_refl _⟩) ?_ hd
  rintro i x σ H H' hi p ⟨T, z, rfl, hT, rfl, hz⟩
  exact hs i z T σ H (hz xs (hl i σ H (Nat.le_of_lt hi) p)) p hT
/-- xs[i] of a list, as a value -/
theorem get_listI {X : Cx} : PGet X (rIxL X.K) := by
  intro pins s σ H o i ov iv Q I ro ri h
  obtain ⟨p, xs, k, z, rfl, rfl, hq, he, q⟩ := h
  cases ro
  obtain ⟨t, rfl⟩ := ri
  obtain ⟨its, r, pl, hz⟩ := I.list hq
  obtain ⟨j, h1, h2, h3, h4, h5⟩ := atI_get he
  obtain ⟨w, ew, rw'⟩ := r.get h2
  have hl := r.length
  have hn := line63
  have fin : EP X pins σ Q w s := ⟨z, H, I, rw', q⟩
  by_cases h0 : 0 ≤ k
  · have hj : k.toNat = j := by
      rw [seqIndex_of h0 h5] at h1
      exact Option.some.inj h1
    exact wpAny_getItem_list pl.isList h0 (by omega) (by rw [hj]; simpa using ew) fin
  · have hj : (k + (its.toArray.size : Int)).toNat = j := by
      rw [seqIndex_neg (by omega) h4] at h1
      rw [List.size_toArray, ← hl]
      exact Option.some.inj h1
    exact wpAny_getItem_list_neg pl.isList (by omega) (by rw [List.size_toArray] <;> omega) (by omega) (by rw [hj]; simpa using ew) fin
end Toy
/-! ### list(enumerate(t)), t a tuple (wants enumt.inc) -/
namespace PySem
theorem enum_no_len' : typeLookup (.type "enumerate") "__len__" = pure none := by rw [typeLookup_type, builtinLookup_eq_fast]; kernel_rfl
theorem enum_no_hint' : typeLookup (.type "enumerate") "__length_hint__" = pure none := by rw [typeLookup_type, builtinLookup_eq_fast]; kernel_rfl
section
variable {prog : Program} {w : World} {A : Around} {E : Value → Shared → Prop} {s : Shared}
theorem enum_next_heldD {e it T : Addr} {fp : List Addr} {n i : Nat} {P : Nat → Value → Prop} {St : Nat → Heap → Prop} {old : Value} {f : Bool} {oT : Obj} {Q : Value → Shared → Prop}
    (D : Draws prog w A it fp n P St) (he : IsEnumHeld s.heap e it i old T f) (hT : s.heap.get? T = some oT) (hTe : T ≠ e) (hTi : T ≠ it) (hst : St i s.heap) (hlt : i < n) (hne : e ≠ it) (hef : e ∉ fp)
    (hQ : ∀ x h' tk, P i x → IsEnumHeld h' e it ((i : Int) + 1) old T true → St (i + 1) h' →
      h'.get? s.heap.objs.size = some { cls := .type "tuple", data := .seq #[.int i tk, x] } → h'.objs.size = s.heap.objs.size + 1 →
      (∀ b o, b ≠ e → b ≠ it → s.heap.get? b = some o → h'.get? b = some o) → Q (.ref s.heap.objs.size) { s with heap := h', toks := tk + 1 }) :
    wpAny (model prog w) A (Builtin.«enumerate.__next__» ⟨[.ref e], []⟩) (fun fin s' => ∃ v, fin = .done (.ret v) ∧ Q v s') E s := by
  obtain ⟨hp, g, d, tk₀, os⟩ := s
  show wpAny _ _ (field (.ref e) 2 >>= _) _ _ _
  refine wpAny_bind (wpAny_field he rfl (x := .ref it) rfl ?_)
  refine wpAny_bind (D.item i _ _ _ hlt hst fun x h₁ tk hPx hit₁ hs₁ => ?_)
  replace hs₁ : Heap.SameBut it hp h₁ := hs₁
  have he₁ : IsEnumHeld h₁ e it i old T f := (hs₁.2 e hne).trans he
  show wpAny _ _ (field (.ref e) 3 >>= _) _ _ ⟨h₁, g, d, tk, os⟩
  refine wpAny_bind (wpAny_field he₁ rfl (x := rawInt i) rfl ?_)
  show wpAny _ _ (field (.ref e) 4 >>= _) _ _ ⟨h₁, g, d, tk, os⟩
  refine wpAny_bind (wpAny_field he₁ rfl (x := .none) rfl ?_)
  show wpAny _ _ (mkInt i >>= _) _ _ ⟨h₁, g, d, tk, os⟩
  refine wpAny_bind (wpAny_mkInt ?_)
  show wpAny _ _ (setField (.ref e) 3 (rawInt ((i : Int) + 1)) >>= _) _ _ ⟨h₁, g, d, tk + 1, os⟩
  refine wpAny_bind (wpAny_setField_rec he₁ (by simp) fun h₂ he₂ hs₂ => ?_)
  replace hs₂ : Heap.SameBut e h₁ h₂ := hs₂
  replace he₂ : IsEnumHeld h₂ e it ((i : Int) + 1) old T f := he₂
  show wpAny _ _ (setField (.ref e) 4 .none >>= _) _ _ ⟨h₂, g, d, tk + 1, os⟩
  refine wpAny_bind (wpAny_setField_rec he₂ (by simp) fun h₃ he₃ hs₃ => ?_)
  replace hs₃ : Heap.SameBut e h₂ h₃ := hs₃
  replace he₃ : IsEnumHeld h₃ e it ((i : Int) + 1) old T f := he₃
  show wpAny _ _ (newTuple [.int i tk, x] >>= _) _ _ ⟨h₃, g, d, tk + 1, os⟩
  refine wpAny_bind (wpAny_newTuple ?_)
  have he₄ : IsEnumHeld (h₃.push { cls := .type "tuple", data := .seq #[.int i tk, x] }) e it ((i : Int) + 1) old T f := Heap.get?_push_of_some _ he₃
  generalize hh₄ : h₃.push { cls := .type "tuple", data := .seq #[.int i tk, x] } = h₄ at he₄
  have hsz : h₃.objs.size = hp.objs.size := by rw [hs₃.1, hs₂.1, hs₁.1]
  have hel : e < hp.objs.size := Heap.lt_size he
  have ht₄ : h₄.get? hp.objs.size = some { cls := .type "tuple", data := .seq #[.int i tk, x] } := by rw [← hh₄, ← hsz]; exact Heap.get?_push_size _ rfl
  have hz₄ : h₄.objs.size = hp.objs.size + 1 := by rw [← hh₄, Heap.size_push, hsz]
  have hk₄ : ∀ b o, b ≠ e → b ≠ it → hp.get? b = some o → h₄.get? b = some o := fun b o hbe hbi hb => by
    rw [← hh₄]; exact Heap.get?_push_of_some _ (hs₃.extBut b o hbe (hs₂.extBut b o hbe (hs₁.extBut b o hbi hb)))
  have hit₄ : St (i + 1) h₄ := D.frame _ _ _ hit₁ fun b hb o y => by
    have hbe : b ≠ e := fun q => hef (q ▸ hb)
    rw [← hh₄]; exact Heap.get?_push_of_some _ (hs₃.extBut b o hbe (hs₂.extBut b o hbe y))
  show wpAny _ _ (Builtin.SmallTypes.ownedTupleIsFree (.ref e) >>= _) _ _ ⟨h₄, g, d, tk + 1, os⟩
  rw [hsz]
  clear hh₄ he₃ hs₃ he₂ hs₂ he₁ hs₁ hit₁ hsz h₃ h₂ h₁
  refine wpAny_bind (wpAny_tupleHeld_enum (s := ⟨h₄, g, d, tk + 1, os⟩) he₄ (hk₄ T oT hTe hTi hT) fun h₅ he₅ hs₅ => ?_)
  replace hs₅ : Heap.SameBut e h₄ h₅ := hs₅
  simp only [Bool.false_eq_true, if_false]
  refine wpAny_pure ⟨_, rfl, hQ x h₅ tk hPx he₅ ?_ (hs₅.extBut _ _ (Nat.ne_of_gt hel) ht₄) ?_ fun b o hbe hbi hb => hs₅.extBut b o hbe (hk₄ b o hbe hbi hb)⟩
  · exact D.frame _ _ _ hit₄ fun b hb o y => by
      have hbe : b ≠ e := fun q => hef (q ▸ hb)
      exact hs₅.extBut b o hbe y
  · show h₅.objs.size = hp.objs.size + 1
    rw [hs₅.1, hz₄]
theorem pyNext_enum_heldD {e it T : Addr} {fp : List Addr} {n i : Nat} {P : Nat → Value → Prop} {St : Nat → Heap → Prop} {old : Value} {f : Bool} {oT : Obj} {Q : Option Value → Shared → Prop}
    (D : Draws prog w A.in1 it fp n P St) (he : IsEnumHeld s.heap e it i old T f) (hT : s.heap.get? T = some oT) (hTe : T ≠ e) (hTi : T ≠ it) (hst : St i s.heap) (hlt : i < n) (hne : e ≠ it) (hef : e ∉ fp)
    (hQ : ∀ x h' tk, P i x → IsEnumHeld h' e it ((i : Int) + 1) old T true → St (i + 1) h' →
      h'.get? s.heap.objs.size = some { cls := .type "tuple", data := .seq #[.int i tk, x] } → h'.objs.size = s.heap.objs.size + 1 →
      (∀ b o, b ≠ e → b ≠ it → s.heap.get? b = some o → h'.get? b = some o) → Q (some (.ref s.heap.objs.size)) { s with heap := h', toks := tk + 1 }) :
    wpAny (model prog w) A (pyNext (.ref e)) Q E s := by
  have hTy : s.TypeIs (.ref e) "enumerate" := ⟨_, he, rfl⟩
  unfold pyNext
  exact wpAny_bind (wpAny_attempt (wpAny_callSpecial?_slot (name := Str.ofString "__next__") hTy F.slot_enumerate_next
    (wpAny_call_entry F.slot_enumerate_next hTy F.entry_enumerate_next
      (enum_next_heldD D he hT hTe hTi hst hlt hne hef fun x h' tk a0 a1 a2 a3 a4 a5 => wpAny_pure (hQ x h' tk a0 a1 a2 a3 a4 a5)) (F.args_enumerate_next_1 _))))
theorem pyNext_enum_end_heldD {e it T : Addr} {fp : List Addr} {n : Nat} {P : Nat → Value → Prop} {St : Nat → Heap → Prop} {i : Int} {old : Value} {f : Bool} {Q : Option Value → Shared → Prop}
    (D : Draws prog w A.in1 it fp n P St) (he : IsEnumHeld s.heap e it i old T f) (hst : St n s.heap)
    (hQ : ∀ h', Heap.ExtBut it s.heap h' → Q none { s with heap := h' }) : wpAny (model prog w) A (pyNext (.ref e)) Q E s := by
  have hT : s.TypeIs (.ref e) "enumerate" := ⟨_, he, rfl⟩
  unfold pyNext
  refine wpAny_bind (wpAny_attempt (wpAny_callSpecial?_slot (name := Str.ofString "__next__") hT F.slot_enumerate_next
    (wpAny_call_entry F.slot_enumerate_next hT F.entry_enumerate_next ?_ (F.args_enumerate_next_1 _))))
  show wpAny _ _ (field (.ref e) 2 >>= _) _ _ _
  refine wpAny_bind (wpAny_field he rfl (x := .ref it) rfl ?_)
  refine wpAny_bind (D.done _ _ _ hst fun h' x he' hx' => ?_)
  obtain ⟨o, ho, hc⟩ := hx'
  refine wpAny_bind (wpAny_isInstance (T := "StopIteration") (b := true) ⟨o, ho, hc⟩ isSubtype_stop ?_)
  exact wpAny_pure (hQ _ he')
end
end PySem
namespace Toy
open PySem PySem.Spec PyProof.Rows L2
open Sem (wp)
/-- the enumerator, its tuple iterator; the last pair that it made is held by the list -/
def est (e it a S : Addr) (i : Nat) (h : Heap) : Prop := h.IsTupleIter it a i ∧ ((∃ old, IsEnum h e it ((i : Nat) : Int) old) ∨ ∃ old T f oT, IsEnumHeld h e it ((i : Nat) : Int) old T f ∧ h.get? T = some oT ∧ T ≠ e ∧ T ≠ it ∧ T ≠ S)
theorem est.at {e it a S : Addr} {i : Nat} {h h' : Heap} (n1 : S ≠ e) (n2 : S ≠ it) (k : ∀ b o, b ≠ S → h.get? b = some o → h'.get? b = some o) (st : est e it a S i h) : est e it a S i h' := by
  obtain ⟨h1, hz⟩ := st
  refine ⟨h1.at fun o q => k _ o (Ne.symm n2) q, ?_⟩
  rcases hz with ⟨old, hz⟩ | ⟨old, T, f, oT, hz, hT, r1, r2, r3⟩
  · exact .inl ⟨old, k _ _ (Ne.symm n1) hz⟩
  · exact .inr ⟨old, T, f, oT, k _ _ (Ne.symm n1) hz, k _ _ r3 hT, r1, r2, r3⟩
def IxAt (H : Hp) (ts : List Addr) (xs : List V) : Prop := ∀ (j : Nat) (t : Addr) (x : V), ts[j]? = some t → xs[j]? = some x → H t = some (.tup [.int (j : Nat), x])
theorem ext_enum {X : Cx} {pins : List (Addr × Obj)} {σ : L2.St} {e it a S : Addr} {A : Around} {R : Result → Shared → Prop} (hA : A.in1.in1.handled = none) (hai : a ≠ it) (hei : e ≠ it) (hea : e ≠ a) {xs : List V} (h1000 : xs.length ≤ 1000)
    (nS : S ≠ e ∧ S ≠ it) (res : Value) (H0 : Hp) (hq : ∀ H', But S H0 H' → SqT X.K H' a xs) :
    ∀ (k i : Nat) (s : Shared) (H : Hp) (ts : List Addr), xs.length - i = k → i ≤ xs.length → Inv X pins σ H s → (∀ b ∈ [e, it], FpOk X pins H b) → est e it a S i s.heap → But S H0 H →
    H S = some (.lst (ts.map V.ref)) → ts.length = i → IxAt H ts xs →
    (∀ s' H' ts', Inv X pins σ H' s' → But S H0 H' → H' S = some (.lst (ts'.map V.ref)) → ts'.length = xs.length → IxAt H' ts' xs → R (.ok (.ret res)) s') →
    codeAny (model X.prog X.w) A (.builtin "list.extend.loop" ⟨[.ref S, .ref e, res], []⟩) R s := by
  have hline : 1000 ≤ sizeLine := small (Nat.le_refl _)
  intro k
  induction k with
  | zero =>
    intro i s H ts hk hi I hf st hB hS hts hc hR
    have hin : i = xs.length := by omega
    obtain ⟨hit, hz⟩ := st
    have q1 := hq H hB
    obtain ⟨its, rv, p1, _⟩ := I.tuple q1
    have l1' := rv.length
    have e2 : i = its.toArray.size := by rw [List.size_toArray]; omega
    refine codeAny_builtin F.entry_extend_loop ?_
    rw [Around.under_plainId F.plain_extend_loop _]
    show wpAny _ A.in1 (pyNext (.ref e) >>= _) _ _ s
    refine wpAny_bind ?_
    have fin : ∀ h', Heap.ExtBut it s.heap h' → R (.ok (.ret res)) { s with heap := h' } := fun h' hk =>
      hR _ H ts (I.turnedL (t' := s.toks) (ch := [e, it]) (fun c o hb q => hk c o (fun q' => hb (by simp [q'])) q) hf) hB hS (by omega) hc
    rcases hz with ⟨old, hz⟩ | ⟨old, T, f, oT, hz, hT, r1, r2, r3⟩
    · rw [e2] at hit hz
      exact wpAny_pyNext_enum_endD (Draws.tuple hA it a hai its.toArray) hz ⟨hit, tup_is p1⟩ fun h' hk => wpAny_pure (fin h' hk)
    · rw [e2] at hit hz
      exact pyNext_enum_end_heldD (Draws.tuple hA it a hai its.toArray) hz ⟨hit, tup_is p1⟩ fun h' hk => wpAny_pure (fin h' hk)
  | succ k ih =>
    intro i s H ts hk hi I hf st hB hS hts hc hR
    have hlt : i < xs.length := by omega
    obtain ⟨hit, hz⟩ := st
    have q1 := hq H hB
    obtain ⟨its, rv, p1, _⟩ := I.tuple q1
    obtain ⟨u, hu, ru⟩ := rv.get (List.getElem?_eq_getElem hlt)
    have lt : ∀ {c o}, s.heap.get? c = some o → s.heap.objs.size ≠ c := fun e => Nat.ne_of_gt (Heap.lt_size e)
    have nit : s.heap.objs.size ≠ it := let ⟨_, e, _⟩ := hit; lt e
    have hfr : H s.heap.objs.size = none := I.hok.fresh (Nat.le_refl _)
    have nNS : S ≠ s.heap.objs.size := ne_of_none hS hfr
    refine codeAny_builtin F.entry_extend_loop ?_
    rw [Around.under_plainId F.plain_extend_loop _]
    show wpAny _ A.in1 (pyNext (.ref e) >>= _) _ _ s
    refine wpAny_bind ?_
    have ne : s.heap.objs.size ≠ e := by
      rcases hz with ⟨_, hz⟩ | ⟨_, _, _, _, hz, _⟩
      · exact lt hz
      · exact lt hz
    have hsz : i < its.toArray.size := by have h1 := rv.length; rw [List.size_toArray]; omega
    -- one step on
    have on : ∀ x' h' tk, its.toArray[i]? = some x' → h'.get? s.heap.objs.size = some { cls := .type "tuple", data := .seq #[.int i tk, x'] } → (∀ c o, c ≠ e → c ≠ it → s.heap.get? c = some o → h'.get? c = some o) → est e it a S (i + 1) h' →
        wpAny (model X.prog X.w) A.in1 (updateSeq S (·.push (.ref s.heap.objs.size)) >>= fun _ => again (.builtin "list.extend.loop" ⟨[.ref S, .ref e, res], []⟩))
          (fun fin s' => match fin with | .done f => R (.ok f) s' | .again c' => c'.quiet = true ∧ codeAny (model X.prog X.w) A c' R s') (fun e s' => R (.error e) s') { s with heap := h', toks := tk + 1 } := by
      intro x' h' tk hP a5 hk' st'
      have ex : x' = u := by
        have h1 : its[i]? = some x' := by simpa using hP
        rw [hu] at h1
        exact (Option.some.inj h1).symm
      subst ex
      have new : ObjOk X.prog X.w (upd H s.heap.objs.size (.tup [.int (i : Nat), xs[i]])) h' s.heap.objs.size (.tup [.int (i : Nat), xs[i]]) :=
        ⟨by show 2 ≤ sizeLine; decide, [.int i tk, x'], .cons ⟨_, rfl⟩ (.cons ru .nil), ⟨_, a5, rfl, _, rfl⟩⟩
      have I1 : Inv X pins σ (upd H s.heap.objs.size (.tup [.int (i : Nat), xs[i]])) { s with heap := h', toks := tk + 1 } :=
        I.turnedNew (t' := tk + 1) (ch := [e, it]) (fun c o hb q => hk' c o (fun q' => hb (by simp [q'])) (fun q' => hb (by simp [q'])) q) hf (Nat.le_refl _) new
      have hS1 : (upd H s.heap.objs.size (.tup [.int (i : Nat), xs[i]])) S = some (.lst (ts.map V.ref)) := by rw [upd_ne nNS]; exact hS
      obtain ⟨hz1, its3, n3, rv3, hl3, hS3⟩ := I1.lstM hS1
      have hl3' : its3.length = i := by rw [← hl3, List.length_map, hts]
      have I2 := I1.lset (f := (·.push (.ref s.heap.objs.size))) (ys := (ts ++ [s.heap.objs.size]).map V.ref) (its' := its3 ++ [.ref s.heap.objs.size]) (t' := tk + 1) hS1 hS3 (by simp) (by rw [List.map_append]; exact rv3.append (.cons rfl .nil)) (by rw [List.length_map, List.length_append, hts]; show i + 1 ≤ sizeLine; omega)
      refine wpAny_bind ?_
      refine wpAny_updateSeq hS3 rfl (wpAny_pure ⟨plainId_quiet F.plain_extend_loop _, ih (i + 1) _ _ (ts ++ [s.heap.objs.size]) (by omega) hlt I2 (fun b hb => ?_) (st'.at nS.1 nS.2 fun b o hb e => (Heap.get?_update_other _ _ (Ne.symm hb)).trans e) ?_ upd_same (by rw [List.length_append, hts] <;> rfl) ?_ hR⟩) (by rw [List.size_toArray]; omega) (by simp; omega)
      · have h0 := hf b hb
        refine ⟨?_, h0.2⟩
        have nb : b ≠ s.heap.objs.size := by
          simp only [List.mem_cons, List.not_mem_nil, or_false] at hb
          rcases hb with rfl | rfl
          · exact Ne.symm ne
          · exact Ne.symm nit
        have nb2 : b ≠ S := by
          simp only [List.mem_cons, List.not_mem_nil, or_false] at hb
          rcases hb with rfl | rfl
          · exact Ne.symm nS.1
          · exact Ne.symm nS.2
        rw [upd_ne nb2, upd_ne nb]
        exact h0.1
      · exact fun c o hc e => by
          have e' := hB c o hc e
          rw [upd_ne hc, upd_ne (ne_of_none e' hfr)]
          exact e'
      · intro j t x hj hx
        by_cases c : j < i
        · rw [List.getElem?_append_left (by omega)] at hj
          have h5 := hc j t x hj hx
          have nt : t ≠ S := ne_of h5 hS (by intro w; cases w)
          rw [upd_ne nt, upd_ne (ne_of_none h5 hfr)]
          exact h5
        · have hj2 := (List.getElem?_eq_some_iff.mp hj).1
          rw [List.length_append] at hj2
          have hj3 : j < ts.length + 1 := hj2
          have : j = i := by omega
          subst this
          rw [List.getElem?_append_right (by omega), hts, Nat.sub_self] at hj
          cases (Option.some.inj hj)
          rw [List.getElem?_eq_getElem hlt] at hx
          cases (Option.some.inj hx)
          rw [upd_ne (Ne.symm nNS), upd_same]
    have ei : ((i + 1 : Nat) : Int) = (i : Int) + 1 := by omega
    rcases hz with ⟨old, hz⟩ | ⟨old, T, f, oT, hz, hT, r1, r2, r3⟩
    · refine wpAny_pyNext_enum_itemD (Draws.tuple hA it a hai its.toArray) hz ⟨hit, tup_is p1⟩ hsz hei (by simp [hei, hea]) fun x' h' tk hP ho hst' hT' hsz' hk' => ?_
      exact on x' h' tk hP hT' hk' ⟨hst'.1, .inr ⟨x', s.heap.objs.size, false, _, by rw [ei]; exact ho, hT', ne, nit, Ne.symm nNS⟩⟩
    · refine pyNext_enum_heldD (Draws.tuple hA it a hai its.toArray) hz hT r1 r2 ⟨hit, tup_is p1⟩ hsz hei (by simp [hei, hea]) fun x' h' tk hP ho hst' hT' hsz' hk' => ?_
      exact on x' h' tk hP hT' hk' ⟨hst'.1, .inr ⟨old, T, true, oT, by rw [ei]; exact ho, hk' _ _ r1 r2 hT, r1, r2, r3⟩⟩
theorem list_of_enum {X : Cx} {pins : List (Addr × Obj)} {σ : L2.St} {H : Hp} {s : Shared} (I : Inv X pins σ H s) (hcalm : X.calm = true) {e it a : Addr} (hai : a ≠ it) (hei : e ≠ it) (hea : e ≠ a) {xs : List V} (h1000 : xs.length ≤ 1000)
    (he : IsEnum s.heap e it ((0 : Nat) : Int) .none) (hit : s.heap.IsTupleIter it a 0)
    (hf : ∀ b ∈ [e, it], FpOk X pins H b) (hq1 : SqT X.K H a xs) {Q : VK}
    (q : ∀ S ts H2, Same H H2 → H S = none → H2 S = some (.lst (ts.map V.ref)) → ts.length = xs.length → IxAt H2 ts xs → Q (.ref S) H2) :
    wpAny (model X.prog X.w) X.A (call (.type "list") [.ref e]) (EP X pins σ Q) X.xe s := by
  have hh : X.A.in1.in1.in1.handled = none := show X.A.handled = none from I.ok.hd hcalm
  have ne : s.heap.objs.size ≠ e := Nat.ne_of_gt (Heap.lt_size he)
  have nit : s.heap.objs.size ≠ it := let ⟨_, e, _⟩ := hit; Nat.ne_of_gt (Heap.lt_size e)
  have hfr : H s.heap.objs.size = none := I.hok.fresh (Nat.le_refl _)
  refine callType_codes (Q₁ := fun obj s₁ => obj = .ref s.heap.objs.size ∧ s₁ = { s with heap := s.heap.push { cls := .type "list", data := .seq #[] } }) F.called_list (F.typeCall_list_1 _) F.entry_list_init
    (code_list_new _ ⟨rfl, rfl⟩) fun obj s₁ h₁ => ?_
  obtain ⟨rfl, rfl⟩ := h₁
  have hS : (s.heap.push { cls := .type "list", data := .seq #[] }).get? s.heap.objs.size = some { cls := .type "list", data := .seq #[] } := Heap.get?_push_size _ rfl
  refine ⟨⟨_, hS, rfl⟩, F.args_list_init_2 _ _, ?_⟩
  show wpAny _ X.A.in1.in1 (do let old ← Builtin.List.listItems (.ref s.heap.objs.size); Builtin.List.listUpdate (.ref s.heap.objs.size) (fun _ => #[]); letGo old.toList.reverse; Builtin.List.listExtendWith (.ref s.heap.objs.size) (.ref e) .none) _ _ _
  refine wpAny_bind ?_
  unfold Builtin.List.listItems
  refine wpAny_bind (wpAny_seqItems hS rfl (wpAny_pure ?_))
  show wpAny _ X.A.in1.in1 (updateSeq s.heap.objs.size (fun _ => #[]) >>= fun _ => letGo (#[] : Array Value).toList.reverse >>= fun _ => Builtin.List.listExtendWith (.ref s.heap.objs.size) (.ref e) .none) _ _ _
  refine wpAny_bind (wpAny_updateSeq hS rfl ?_)
  have hS₂ := Heap.get?_update_self (Obj.mapSeq (fun _ => (#[] : Array Value))) hS rfl
  have oth : ∀ b o, b ≠ s.heap.objs.size → s.heap.get? b = some o → ((s.heap.push { cls := .type "list", data := .seq #[] }).update s.heap.objs.size (Obj.mapSeq (fun _ => (#[] : Array Value)))).get? b = some o :=
    fun b o hb e => (Heap.get?_update_other _ _ (Ne.symm hb)).trans (Heap.get?_push_of_some _ e)
  refine wpAny_bind (wpAny_letGo ?_)
  generalize hh2 : (s.heap.push { cls := .type "list", data := .seq #[] }).update s.heap.objs.size (Obj.mapSeq (fun _ => (#[] : Array Value))) = hp2 at hS₂ oth
  unfold Builtin.List.listExtendWith
  refine wpAny_bind (wpAny_typeOf (T := "enumerate") ⟨_, oth _ _ (Ne.symm ne) he, rfl⟩ ?_)
  have g1 : Builtin.List.listSameRef (.ref s.heap.objs.size) (.ref e) = false := by simp [Builtin.List.listSameRef, ne]
  have g2 : (Value.type "enumerate" == Value.type "list") = false := by decide
  have g3 : (Value.type "enumerate" == Value.type "tuple") = false := by decide
  simp only [g1, g2, g3, Bool.or_false, Bool.false_eq_true, if_false]
  refine wpAny_bind (wpAny_pyIter_enum (oth _ _ (Ne.symm ne) he) ?_)
  refine wpAny_bind (wpAny_holding ?_)
  unfold Builtin.List.listLengthHint
  refine wpAny_bind (wpAny_specialOf (T := "enumerate") ⟨_, oth _ _ (Ne.symm ne) he, rfl⟩ enum_no_len' ?_)
  show wpAny _ X.A.in1.in1 (specialOf (Value.ref e) (Str.ofString "__length_hint__") >>= _) _ _ _
  refine wpAny_bind (wpAny_specialOf (T := "enumerate") ⟨_, oth _ _ (Ne.symm ne) he, rfl⟩ enum_no_hint' ?_)
  refine wpAny_pure ?_
  show wpAny _ X.A.in1.in1 (rule "list.extend.makes-room" >>= fun _ => Builtin.List.listTouch (.ref s.heap.objs.size) >>= fun _ =>
    again (.builtin "list.extend.loop" ⟨[.ref s.heap.objs.size, .ref e, .none], []⟩)) _ _ _
  refine wpAny_bind (wpAny_rule ?_)
  refine wpAny_bind ?_
  show wpAny _ X.A.in1.in1 (updateSeq s.heap.objs.size (·.push .none) >>= fun _ => updateSeq s.heap.objs.size (·.pop)) _ _ _
  refine wpAny_bind (wpAny_updateSeq hS₂ rfl ?_)
  have hS₃ := Heap.get?_update_self (Obj.mapSeq (·.push Value.none)) hS₂ rfl
  refine wpAny_updateSeq (hz := by seq_fits) hS₃ rfl ?_
  have hS₄ := Heap.get?_update_self (Obj.mapSeq (·.pop)) hS₃ rfl
  have oth2 : ∀ b o, b ≠ s.heap.objs.size → s.heap.get? b = some o → ((hp2.update s.heap.objs.size (Obj.mapSeq (·.push Value.none))).update s.heap.objs.size (Obj.mapSeq (·.pop))).get? b = some o :=
    fun b o hb e => (Heap.get?_update_other _ _ (Ne.symm hb)).trans ((Heap.get?_update_other _ _ (Ne.symm hb)).trans (oth b o hb e))
  have new : ObjOk X.prog X.w (upd H s.heap.objs.size (.lst [])) ((hp2.update s.heap.objs.size (Obj.mapSeq (·.push Value.none))).update s.heap.objs.size (Obj.mapSeq (·.pop))) s.heap.objs.size (.lst []) :=
    ⟨Nat.zero_le _, [], _, .nil, hS₄⟩
  have I1 : Inv X pins σ (upd H s.heap.objs.size (.lst [])) { s with heap := (hp2.update s.heap.objs.size (Obj.mapSeq (·.push Value.none))).update s.heap.objs.size (Obj.mapSeq (·.pop)) } :=
    I.laid (t' := s.toks) (fun b u e => oth2 b u (Nat.ne_of_lt (Heap.lt_size e)) e) (Nat.le_refl _) new
  have S1 := same_new hfr (.lst [])
  refine wpAny_pure ⟨plainId_quiet F.plain_extend_loop _, ext_enum (A := X.A.in1) (R := wants (fun r s₂ => r = Value.none ∧ EP X pins σ Q (Value.ref s.heap.objs.size) s₂) X.xe) hh hai hei hea h1000 ⟨ne, nit⟩ .none (upd H s.heap.objs.size (.lst [])) (fun H' B' => ?_) (xs.length - 0) 0 _ _ [] rfl (Nat.zero_le _) I1 (fun b hb => ?_) ?_ But.refl upd_same rfl (fun j t x hj => by simp at hj) fun s' H' ts' I' B' hS' hl' hp' => ⟨rfl, .ref s.heap.objs.size, H', I', rfl, q _ ts' H' (but_same hfr S1 B') hfr hS' hl' hp'⟩⟩
  · exact same_tup (but_same hfr S1 B') hq1
  · have h0 := hf b hb
    refine ⟨?_, h0.2⟩
    have nb2 : b ≠ s.heap.objs.size := by
      simp only [List.mem_cons, List.not_mem_nil, or_false] at hb
      rcases hb with rfl | rfl
      · exact Ne.symm ne
      · exact Ne.symm nit
    rw [upd_ne nb2]
    exact h0.1
  · exact ⟨hit.at fun o q => oth2 _ o (Ne.symm nit) q, .inl ⟨.none, oth2 _ _ (Ne.symm ne) he⟩⟩
def tListEnT (K : PySem.W.Frag) (ta : TA) : TE := fun σ H Q => ta σ H fun vs H1 => ∃ a xs, vs = [.ref a] ∧ SqT K H1 a xs ∧ xs.length ≤ 1000 ∧
  ∀ S ts H2, Same H1 H2 → H1 S = none → H2 S = some (.lst (ts.map V.ref)) → ts.length = xs.length → IxAt H2 ts xs → Q (.ref S) H2
theorem pe_listEnT {X : Cx} {e : Expr} {ta : TA} {p p2 pos pos2 : Pos} (hc : X.calm = true) (hg0 : Gl X "list") (hm0 : X.mg "list" = none) (hg : Gl X "enumerate") (hm : X.mg "enumerate" = none) (ha : PA X [e] ta)
    (hs : starEach [e] X.env = (false, eval e X.env) :: starEach [] X.env := by rfl) (hpl : (backTo pos2 (starEach [] X.env)).any (·.1) = false := by rfl)
    (na : starEach [.Call (.Name "enumerate" p2) [e] [] pos2] X.env = (false, eval (.Call (.Name "enumerate" p2) [e] [] pos2) X.env) :: starEach [] X.env := by rfl) :
    PE X (.Call (.Name "list" p) [.Call (.Name "enumerate" p2) [e] [] pos2] [] pos) (tListEnT X.K ta) := by
  refine ⟨fun pins s σ H Q I h => ?_⟩
  refine Call_ (ld_blt I hg0 hm0 boot_list (PyProof.Rows.callWith_type1 (args_cons ?_ na) na))
  refine Call_ (ld_blt I hg hm boot_enumerate (PyProof.Rows.callWith_type1 (thn (ha.run pos2 pins s σ H _ I h) fun us s1 ⟨vs, H1, I1, r1, q1⟩ => ?_) hs hpl))
  obtain ⟨a, xs, ex, hqx, h1000, q⟩ := q1
  subst ex
  cases r1 with
  | cons r rr =>
    cases rr
    cases r
    obtain ⟨its, rv, p', hz⟩ := I1.tuple hqx
    have hal : a < s1.heap.objs.size := by obtain ⟨o, ho, _⟩ := p'; exact Heap.lt_size ho
    refine call_enumerate_tup (tup_is p') fun h' he hit hsz hk => args_nil ?_
    have I2 : Inv X pins σ H1 { s1 with heap := h' } := I1.kept (t' := s1.toks) hk
    refine list_of_enum (s := { s1 with heap := h' }) I2 hc (Nat.ne_of_lt hal) (Nat.succ_ne_self _) (Nat.ne_of_gt (Nat.lt_succ_of_lt hal)) h1000 he hit (fun b hb => ?_) hqx q
    have e' : b = s1.heap.objs.size + 1 ∨ b = s1.heap.objs.size := by simpa using hb
    have hle : s1.heap.objs.size ≤ b := by
      rcases e' with z | z
      · rw [z]; exact Nat.le_add_right _ _
      · rw [z]; exact Nat.le_refl _
    exact I1.fpOk hle (I1.hok.fresh hle)
end Toy
/-! ### tuple(enumerate(t)), t a tuple (wants enumt.inc, etl.inc) -/
namespace Toy
open PySem PySem.Spec PyProof.Rows L2
open Sem (wp)
theorem collect_enum {X : Cx} {pins : List (Addr × Obj)} {σ : L2.St} {H : Hp} {s : Shared} (I : Inv X pins σ H s) {A : Around} {E : Value → Shared → Prop} (hh : A.handled = none) {e it a : Addr} (hai : a ≠ it) (hei : e ≠ it) (hea : e ≠ a) {xs : List V} (h1000 : xs.length ≤ 1000)
    (he : IsEnum s.heap e it ((0 : Nat) : Int) .none) (hit : s.heap.IsTupleIter it a 0)
    (hf : ∀ b ∈ [e, it], FpOk X pins H b) (hq1 : SqT X.K H a xs) {Q : List Value → Shared → Prop}
    (q : ∀ s' H' ts vs, Inv X pins σ H' s' → Same H H' → ts.length = xs.length → IxAt H' ts xs → Vals (ts.map V.ref) vs → Q vs s') :
    wpAny (model X.prog X.w) A (collect (.ref e)) Q E s := by
  have ne : s.heap.objs.size ≠ e := Nat.ne_of_gt (Heap.lt_size he)
  have nit : s.heap.objs.size ≠ it := let ⟨_, e, _⟩ := hit; Nat.ne_of_gt (Heap.lt_size e)
  have hfr : H s.heap.objs.size = none := I.hok.fresh (Nat.le_refl _)
  unfold collect
  refine wpAny_bind (wpAny_runValue (codeAny_builtin F.entry_proto_collect ?_))
  rw [Around.under_plainId F.plain_proto_collect _]
  show wpAny _ A.in1 (newList [] >>= fun l' => again (.builtin "list.__iadd__" ⟨[l', .ref e], []⟩)) _ _ s
  refine wpAny_bind (wpAny_newObj_type ?_)
  refine wpAny_pure ⟨plainId_quiet F.plain_list_iadd _, codeAny_builtin F.entry_list_iadd ?_⟩
  rw [Around.under_plainId F.plain_list_iadd _]
  have hS₁ : (s.heap.push { cls := .type "list", data := .seq ([] : List Value).toArray }).get? s.heap.objs.size = some { cls := .type "list", data := .seq ([] : List Value).toArray } := Heap.get?_push_size _ rfl
  have oth : ∀ b o, s.heap.get? b = some o → (s.heap.push { cls := .type "list", data := .seq ([] : List Value).toArray }).get? b = some o := fun b o e => Heap.get?_push_of_some _ e
  have hT : ({ s with heap := s.heap.push { cls := .type "list", data := .seq ([] : List Value).toArray } } : Shared).TypeIs (.ref e) "enumerate" := ⟨_, oth _ _ he, rfl⟩
  have h1 : Builtin.List.listSameRef (.ref s.heap.objs.size) (.ref e) = false := by simp [Builtin.List.listSameRef, ne]
  show wpAny _ A.in1 (Builtin.List.listExtendWith (.ref s.heap.objs.size) (.ref e) (.ref s.heap.objs.size)) _ _ _
  unfold Builtin.List.listExtendWith
  refine wpAny_bind (wpAny_typeOf hT ?_)
  rw [if_neg (by rw [h1]; decide)]
  refine wpAny_bind (wpAny_pyIter_enum (s := { s with heap := s.heap.push { cls := .type "list", data := .seq ([] : List Value).toArray } }) (oth _ _ he) ?_)
  refine wpAny_bind (wpAny_holding ?_)
  unfold Builtin.List.listLengthHint
  refine wpAny_bind (wpAny_specialOf hT enum_no_len' ?_)
  show wpAny _ A.in1 (specialOf (Value.ref e) (Str.ofString "__length_hint__") >>= _) _ _ _
  refine wpAny_bind (wpAny_specialOf hT enum_no_hint' ?_)
  refine wpAny_pure ?_
  show wpAny _ A.in1 (rule "list.extend.makes-room" >>= fun _ => Builtin.List.listTouch (.ref s.heap.objs.size) >>= fun _ =>
    again (.builtin "list.extend.loop" ⟨[.ref s.heap.objs.size, .ref e, .ref s.heap.objs.size], []⟩)) _ _ _
  refine wpAny_bind (wpAny_rule ?_)
  refine wpAny_bind ?_
  show wpAny _ A.in1 (updateSeq s.heap.objs.size (·.push .none) >>= fun _ => updateSeq s.heap.objs.size (·.pop)) _ _ _
  refine wpAny_bind (wpAny_updateSeq hS₁ rfl ?_)
  have hS₃ := Heap.get?_update_self (Obj.mapSeq (·.push Value.none)) hS₁ rfl
  refine wpAny_updateSeq (hz := by seq_fits) hS₃ rfl ?_
  have hS₄ := Heap.get?_update_self (Obj.mapSeq (·.pop)) hS₃ rfl
  have oth2 : ∀ b o, b ≠ s.heap.objs.size → s.heap.get? b = some o → (((s.heap.push { cls := .type "list", data := .seq ([] : List Value).toArray }).update s.heap.objs.size (Obj.mapSeq (·.push Value.none))).update s.heap.objs.size (Obj.mapSeq (·.pop))).get? b = some o :=
    fun b o hb e => (Heap.get?_update_other _ _ (Ne.symm hb)).trans ((Heap.get?_update_other _ _ (Ne.symm hb)).trans (oth b o e))
  have new : ObjOk X.prog X.w (upd H s.heap.objs.size (.lst [])) (((s.heap.push { cls := .type "list", data := .seq ([] : List Value).toArray }).update s.heap.objs.size (Obj.mapSeq (·.push Value.none))).update s.heap.objs.size (Obj.mapSeq (·.pop))) s.heap.objs.size (.lst []) :=
    ⟨Nat.zero_le _, [], _, .nil, hS₄⟩
  have I1 : Inv X pins σ (upd H s.heap.objs.size (.lst [])) { s with heap := ((s.heap.push { cls := .type "list", data := .seq ([] : List Value).toArray }).update s.heap.objs.size (Obj.mapSeq (·.push Value.none))).update s.heap.objs.size (Obj.mapSeq (·.pop)) } :=
    I.laid (t' := s.toks) (fun b u e => oth2 b u (Nat.ne_of_lt (Heap.lt_size e)) e) (Nat.le_refl _) new
  have S1 := same_new hfr (.lst [])
  have hA : A.in1.in1.handled = none := hh
  refine wpAny_pure ⟨plainId_quiet F.plain_extend_loop _, ext_enum (A := A) hA hai hei hea h1000 ⟨ne, nit⟩ (.ref s.heap.objs.size) (upd H s.heap.objs.size (.lst [])) (fun H' B' => ?_) (xs.length - 0) 0 _ _ [] rfl (Nat.zero_le _) I1 (fun b hb => ?_) ?_ But.refl upd_same rfl (fun j t x hj => by simp at hj) fun s' H' ts' I' B' hS' hl' hp' => ?_⟩
  · exact same_tup (but_same hfr S1 B') hq1
  · have h0 := hf b hb
    refine ⟨?_, h0.2⟩
    have nb2 : b ≠ s.heap.objs.size := by
      simp only [List.mem_cons, List.not_mem_nil, or_false] at hb
      rcases hb with rfl | rfl
      · exact Ne.symm ne
      · exact Ne.symm nit
    rw [upd_ne nb2]
    exact h0.1
  · exact ⟨hit.at fun o q => oth2 _ o (Ne.symm nit) q, .inl ⟨.none, oth2 _ _ (Ne.symm ne) he⟩⟩
  · obtain ⟨hz1, its3, n3, rv3, hl3, hS3⟩ := I'.lstM hS'
    show wpAny _ A (load s.heap.objs.size >>= _) _ _ s'
    refine wpAny_bind (wpAny_load hS3 ?_)
    refine wpAny_pure ?_
    exact q s' H' ts' _ I' (but_same hfr S1 B') hl' hp' (by simpa using rv3)
theorem code_tuple_new_enum {X : Cx} {pins : List (Addr × Obj)} {σ : L2.St} {H : Hp} {s : Shared} (I : Inv X pins σ H s) {A : Around} {E : Value → Shared → Prop} (hh : A.handled = none) {e it a : Addr} (hai : a ≠ it) (hei : e ≠ it) (hea : e ≠ a) {xs : List V} (h1000 : xs.length ≤ 1000)
    (he : IsEnum s.heap e it ((0 : Nat) : Int) .none) (hit : s.heap.IsTupleIter it a 0)
    (hf : ∀ b ∈ [e, it], FpOk X pins H b) (hq1 : SqT X.K H a xs) {Q₁ : Value → Shared → Prop}
    (h : ∀ s' T ts H2, Inv X pins σ H2 s' → s'.TypeIs (.ref T) "tuple" → Same H H2 → H T = none → H2 T = some (.tup (ts.map V.ref)) → ts.length = xs.length → IxAt H2 ts xs → Q₁ (.ref T) s') :
    codeAny (model X.prog X.w) A (.call (.builtin "tuple.__new__") ⟨[.type "tuple", .ref e], []⟩) (wants Q₁ E) s := by
  refine codeAny_of_tree ?_
  show wpAny _ A.in1 (do checkBuiltinCall "tuple.__new__" ⟨[.type "tuple", .ref e], []⟩; again (.builtin "tuple.__new__" ⟨[.type "tuple", .ref e], []⟩)) _ _ s
  refine wpAny_bind (wpAny_of_eq (F.newCall_tuple_1 _) (wpAny_pure ⟨plainId_quiet F.plain_tuple_new _, codeAny_builtin F.entry_tuple_new ?_⟩))
  rw [Around.under_plainId F.plain_tuple_new _]
  have hsub := sub_tuple_self
  have hinit := init_tuple_lookup
  have hmh := madeHere_tuple
  have hTI : s.TypeIs (.ref e) "enumerate" := ⟨_, he, rfl⟩
  have hh1 : A.in1.handled = none := hh
  wp_walk using wpAny_typeOf hTI, collect_enum I (A := A.in1) hh1 hai hei hea h1000 he hit hf hq1
  intro s' H' ts vs I' S' hl' hp' rv'
  have hvl : vs.length = xs.length := by rw [← rv'.length, List.length_map, hl']
  have hsl : vs.length ≤ sizeLine := by rw [hvl]; exact Nat.le_trans h1000 (small (Nat.le_refl _))
  show wpAny _ _ (Builtin.Tuple.tupleExact vs.toArray >>= fun v => ret v) _ _ _
  unfold Builtin.Tuple.tupleExact
  refine wpAny_bind (wpAny_newObj_type ?_ (by show vs.toArray.size ≤ sizeLine; simpa using hsl))
  refine wpAny_pure ?_
  have hfr' : H' s'.heap.objs.size = none := I'.hok.fresh (Nat.le_refl _)
  have gT : (s'.heap.push { cls := .type "tuple", data := .seq vs.toArray }).get? s'.heap.objs.size = some { cls := .type "tuple", data := .seq vs.toArray } := Heap.get?_push_size _ rfl
  have new : ObjOk X.prog X.w (upd H' s'.heap.objs.size (.tup (ts.map V.ref))) (s'.heap.push { cls := .type "tuple", data := .seq vs.toArray }) s'.heap.objs.size (.tup (ts.map V.ref)) :=
    ⟨by rw [List.length_map, hl', ← hvl]; exact hsl, vs, rv', ⟨_, gT, rfl, _, rfl⟩⟩
  have I2 : Inv X pins σ (upd H' s'.heap.objs.size (.tup (ts.map V.ref))) { s' with heap := s'.heap.push { cls := .type "tuple", data := .seq vs.toArray } } :=
    I'.laid (t' := s'.toks) (fun b u e => Heap.get?_push_of_some _ e) (Nat.le_refl _) new
  have hfr0 : H s'.heap.objs.size = none := by
    cases hc : H s'.heap.objs.size with
    | none => rfl
    | some o => exact absurd (S' _ o hc) (by rw [hfr']; intro w; cases w)
  refine h _ _ ts _ I2 ⟨_, gT, rfl⟩ ?_ hfr0 upd_same hl' ?_
  · exact S'.trans (same_new hfr' _)
  · exact fun j t x hj hx => by
      have h5 := hp' j t x hj hx
      rw [upd_ne (ne_of_none h5 hfr')]
      exact h5
theorem call_tuple_enum {X : Cx} {pins : List (Addr × Obj)} {σ : L2.St} {H : Hp} {s : Shared} (I : Inv X pins σ H s) (hcalm : X.calm = true) {e it a : Addr} (hai : a ≠ it) (hei : e ≠ it) (hea : e ≠ a) {xs : List V} (h1000 : xs.length ≤ 1000)
    (he : IsEnum s.heap e it ((0 : Nat) : Int) .none) (hit : s.heap.IsTupleIter it a 0)
    (hf : ∀ b ∈ [e, it], FpOk X pins H b) (hq1 : SqT X.K H a xs) {Q : VK}
    (q : ∀ T ts H2, Same H H2 → H T = none → H2 T = some (.tup (ts.map V.ref)) → ts.length = xs.length → IxAt H2 ts xs → Q (.ref T) H2) :
    wpAny (model X.prog X.w) X.A (call (.type "tuple") [.ref e]) (EP X pins σ Q) X.xe s := by
  have hh : X.A.in1.handled = none := show X.A.handled = none from I.ok.hd hcalm
  refine callType_codes (Q₁ := fun obj s₁ => s₁.TypeIs obj "tuple" ∧ EP X pins σ Q obj s₁) F.called_tuple (F.typeCall_tuple_1 _) F.entry_object_init
    (code_tuple_new_enum I (A := X.A.in1) hh hai hei hea h1000 he hit hf hq1 fun s' T ts H2 I' hty S' hn hT' hl' hp' => ⟨hty, .ref T, H2, I', rfl, q T ts H2 S' hn hT' hl' hp'⟩) fun obj s₁ h₁ => ?_
  exact ⟨h₁.1, F.args_object_init_2 obj _, object_init_meets F.called_tuple.init.lookup F.called_tuple.made (by decide) X.prog X.w X.A.in1 _ s₁ ⟨h₁.1, rfl, h₁.2⟩⟩
def tTupEnT (K : PySem.W.Frag) (ta : TA) : TE := fun σ H Q => ta σ H fun vs H1 => ∃ a xs, vs = [.ref a] ∧ SqT K H1 a xs ∧ xs.length ≤ 1000 ∧
  ∀ T ts H2, Same H1 H2 → H1 T = none → H2 T = some (.tup (ts.map V.ref)) → ts.length = xs.length → IxAt H2 ts xs → Q (.ref T) H2
theorem pe_tupEnT {X : Cx} {e : Expr} {ta : TA} {p p2 pos pos2 : Pos} (hc : X.calm = true) (hg0 : Gl X "tuple") (hm0 : X.mg "tuple" = none) (hg : Gl X "enumerate") (hm : X.mg "enumerate" = none) (ha : PA X [e] ta)
    (hs : starEach [e] X.env = (false, eval e X.env) :: starEach [] X.env := by rfl) (hpl : (backTo pos2 (starEach [] X.env)).any (·.1) = false := by rfl)
    (na : starEach [.Call (.Name "enumerate" p2) [e] [] pos2] X.env = (false, eval (.Call (.Name "enumerate" p2) [e] [] pos2) X.env) :: starEach [] X.env := by rfl) :
    PE X (.Call (.Name "tuple" p) [.Call (.Name "enumerate" p2) [e] [] pos2] [] pos) (tTupEnT X.K ta) := by
  refine ⟨fun pins s σ H Q I h => ?_⟩
  refine Call_ (ld_blt I hg0 hm0 boot_tuple (PyProof.Rows.callWith_type1 (args_cons ?_ na) na))
  refine Call_ (ld_blt I hg hm boot_enumerate (PyProof.Rows.callWith_type1 (thn (ha.run pos2 pins s σ H _ I h) fun us s1 ⟨vs, H1, I1, r1, q1⟩ => ?_) hs hpl))
  obtain ⟨a, xs, ex, hqx, h1000, q⟩ := q1
  subst ex
  cases r1 with
  | cons r rr =>
    cases rr
    cases r
    obtain ⟨its, rv, p', hz⟩ := I1.tuple hqx
    have hal : a < s1.heap.objs.size := by obtain ⟨o, ho, _⟩ := p'; exact Heap.lt_size ho
    refine call_enumerate_tup (tup_is p') fun h' he hit hsz hk => args_nil ?_
    have I2 : Inv X pins σ H1 { s1 with heap := h' } := I1.kept (t' := s1.toks) hk
    refine call_tuple_enum (s := { s1 with heap := h' }) I2 hc (Nat.ne_of_lt hal) (Nat.succ_ne_self _) (Nat.ne_of_gt (Nat.lt_succ_of_lt hal)) h1000 he hit (fun b hb => ?_) hqx q
    have e' : b = s1.heap.objs.size + 1 ∨ b = s1.heap.objs.size := by simpa using hb
    have hle : s1.heap.objs.size ≤ b := by
      rcases e' with z | z
      · rw [z]; exact Nat.le_add_right _ _
      · rw [z]; exact Nat.le_refl _
    exact I1.fpOk hle (I1.hok.fresh hle)
/-! ### a tuple of things beside () -/
def rNeNilT (K : PySem.W.Frag) : R2 := fun x y H Q => ∃ a b ys, x = .ref a ∧ y = .ref b ∧ SqT K H a ys ∧ SqT K H b [] ∧ Q (.bl (!ys.isEmpty)) H
theorem op_neNilT {X : Cx} {K : PySem.W.Frag} (hu : X.A.units + 64 < cLine) (eK : X.K = K := by rfl) : OpR X (compareOp .NotEq) (rNeNilT K) := by
  cases eK
  intro pins s σ H x y v u Q I rx ry h
  obtain ⟨a, b, ys, rfl, rfl, ha, hb, q⟩ := h
  cases rx
  cases ry
  obtain ⟨its, rv, hl, _⟩ := I.tuple ha
  obtain ⟨its2, rv2, hl2, _⟩ := I.tuple hb
  cases rv2
  cases rv with
  | nil => exact SeqAt.RcNeAt.tuples (e := fun _ => true) hl hl2 (by omega) (fun j h1 h2 => absurd h1 (Nat.not_lt_zero _)) _ _ _ _ ⟨.bl _, H, I, rfl, q⟩
  | cons r rs =>
    refine SeqAt.RcNeAt.tuples (e := fun _ => true) hl hl2 (by omega) (fun j h1 h2 => absurd h2 (Nat.not_lt_zero _)) _ _ _ _ ⟨.bl true, H, I, ?_, q⟩
    show Value.bool _ = Value.bool true
    congr 1
end Toy
namespace PySem
/-! ### a, b, .. = a list -/
section
open PyProof.Rows
variable {prog : Program} {w : World} {A : Around} {E : Value → Shared → Prop} {s : Shared}
theorem draw_listU {it t : Addr} {items : Array Value} (hne : t ≠ it) : ∀ (n i : Nat) (s : Shared) (Q : List Value → Shared → Prop), s.heap.IsListIter it t i → s.heap.IsList t items → i + n ≤ items.size →
    (∀ h', h'.IsListIter it t (i + n) → Heap.SameBut it s.heap h' → Q ((items.toList.drop i).take n) { s with heap := h' }) → wpAny (model prog w) A (draw (.ref it) n) Q E s
  | 0, i, s, Q, hit, _, _, hQ => by
    show wpAny _ _ (pure []) Q E s
    exact wpAny_pure (by simpa using hQ s.heap hit (Heap.SameBut.refl ..))
  | n + 1, i, s, Q, hit, ht, hle, hQ => by
    have hlt : i < items.size := by omega
    show wpAny _ _ (pyNext (.ref it) >>= _) Q E s
    refine wpAny_bind (wpAny_pyNext_list_item hit ht (x := items[i]) (by simp [hlt]) fun h₁ hit₁ hs₁ => ?_)
    refine wpAny_bind (wpAny_holding (draw_listU hne n (i + 1) _ _ hit₁ (ht.extBut hs₁.extBut hne) (by omega) fun h₂ hit₂ hs₂ => wpAny_pure ?_))
    have hd : items.toList.drop i = items[i] :: items.toList.drop (i + 1) := by simp [List.drop_eq_getElem_cons, hlt]
    have := hQ h₂ (by rw [show i + (n + 1) = i + 1 + n by omega]; exact hit₂) (hs₁.trans hs₂)
    rw [hd, List.take_succ_cons] at this
    exact this
theorem unpackItems_listU {t : Addr} {items : Array Value} {Q : List Value → Shared → Prop} (hh : A.handled = none) (ht : s.heap.IsList t items)
    (hQ : ∀ h', Heap.ExtBut s.heap.objs.size s.heap h' → Q items.toList { s with heap := h' }) : wpAny (model prog w) A (unpackItems (.ref t) items.size none) Q E s := by
  have hlt : t ≠ s.heap.objs.size := by obtain ⟨o, ho, _⟩ := ht; exact Nat.ne_of_lt (Heap.lt_size ho)
  unfold unpackItems
  refine wpAny_bind ?_
  · unfold notIterableAtAll
    refine wpAny_bind (wpAny_specialOf ht.typeIs slot_list_iter.lookup ?_)
    refine wpAny_pure ?_
    simp only [Bool.false_eq_true, if_false]
    refine wpAny_bind (wpAny_holding (wpAny_pyIter_list ht ?_))
    refine wpAny_bind (wpAny_holding (draw_listU hlt items.size 0 _ _ ⟨_, Heap.get?_push_size _ rfl, rfl, rfl⟩ (ht.push _) (by omega) fun h₁ hit₁ hs₁ => ?_))
    have hall : List.take items.size (List.drop 0 items.toList) = items.toList := by
      rw [List.drop_zero]; exact List.take_of_length_le (by simp)
    rw [hall]
    rw [if_neg (by simp)]
    have ht₁ : h₁.IsList t items := (ht.push _).extBut hs₁.extBut hlt
    refine wpAny_bind (wpAny_holding (wpAny_pyNext_list_end hh hit₁ ht₁ (by simp) fun h₂ he₂ => ?_))
    simp only [Option.isSome_none, Bool.false_eq_true, if_false]
    refine wpAny_pure (hQ h₂ fun b o hb e => he₂ b o hb (hs₁.extBut b o hb (Heap.get?_push_of_some _ e)))
theorem assign_Tuple_listU {env : Env} {elts : List Expr} {x1} {pos : Pos} {t : Addr} {items : Array Value} {Q : Unit → Shared → Prop} (hh : A.handled = none) (ht : s.heap.IsList t items)
    (hn : (assignEach elts env).length = items.size) (hstar : (assignEach elts env).findIdx? (·.1) = none)
    (h : ∀ h', Heap.ExtBut s.heap.objs.size s.heap h' → wpAny (model prog w) A (assignInOrder ((assignEach elts env).map (·.2)) items.toList) Q E { s with heap := h' }) :
    wpAny (model prog w) A (assign (.Tuple elts x1 pos) env (.ref t)) Q E s := by
  rw [assign_Tuple]
  refine wpAny_bind (wpAny_standAt ?_)
  unfold unpack
  rw [hn, hstar]
  exact wpAny_bind (wpAny_holding (unpackItems_listU hh ht h))
end
end PySem
namespace Toy
open PySem PySem.Spec PyProof.Rows L2
/-- (a, b, ..) = a list of that length -/
def gLstU (K : PySem.W.Frag) (n : Nat) (t : TGs) : TG := fun v σ H Q => ∃ a xs, v = .ref a ∧ SqL K H a xs ∧ xs.length = n ∧ t xs σ H Q
theorem pg_lstU {X : Cx} {pos : Pos} {es : List Expr} {k : Nat} {t : TGs} {n : Nat} (hc : X.calm = true) (h : PGs X es t)
    (hn : (assignEach es X.env).length = n := by rfl) (hst : (assignEach es X.env).findIdx? (·.1) = none := by rfl) : PG X (.Tuple es k pos) (gLstU X.K n t) := by
  refine ⟨fun pins s σ H v u Q I r hw => ?_⟩
  obtain ⟨a, xs, e1, hq, hl, hw⟩ := hw
  subst e1
  cases r
  obtain ⟨its, rv, ht, hz⟩ := I.list hq
  refine assign_Tuple_listU (I.ok.hd hc) ht.isList (by simp [hn, ← hl, rv.length]) hst fun h' hx => ?_
  have I1 : Inv X pins σ H { s with heap := h' } := I.kept (t' := s.toks) fun b o e => hx b o (Nat.ne_of_lt (Heap.lt_size e)) e
  exact h.run pins _ σ H xs _ Q I1 (by simpa using rv) hw
/-! ### list.count of flat values -/
theorem cntU {K : PySem.W.Frag} {y : V} {uy : Value} (fy : flatV y = true) (ry : RelV y uy) : ∀ {ys : List V} {us : List Value}, Vals ys us → ys.all flatV = true → us.countP (eqU y) = ys.countP (fun z => eqV z y)
  | _, _, .nil, _ => rfl
  | _, _, .cons (a := v) (l₁ := vs) r rs, h => by
    have h' : (flatV v && vs.all flatV) = true := h
    rw [Bool.and_eq_true] at h'
    have ih := cntU (K := K) fy ry rs h'.2
    rw [List.countP_cons, List.countP_cons, ih, eqU_of r h'.1]
def rCntF (K : PySem.W.Frag) : V → List V → Hp → VK → Prop := fun x xs H Q => ∃ (p : Addr) (ys : List V) (y : V), x = .ref p ∧ xs = [y] ∧ SqL K H p ys ∧ flatV y = true ∧ ys.all flatV = true ∧ Q (.int (ys.countP (fun z => eqV z y) : Nat)) H
theorem mt_lcountF {X : Cx} : MtR X "list.count" (rCntF X.K) := by
  intro pins s σ H x xs v us Q I rx rxs h
  obtain ⟨p, ys, y, rfl, rfl, hs, fy, fys, q⟩ := h
  cases rx
  obtain ⟨u, rfl, ru⟩ := rxs.one
  obtain ⟨its, rv, ⟨⟨cls, dd, data, sl⟩, n, ho, hc, hdn, hd⟩, hlen⟩ := I.list hs
  simp only at hc hd
  subst hc hd
  refine call_meets PySem.F.slot_list_count ⟨_, ho, rfl⟩ PySem.F.entry_list_count (PySem.F.args_list_count_2 _ _)
    (SeqAt.list_countAt p its.toArray n dd sl u (eqU y)) ⟨ho, fun u' hu' => mem_eqAt ru fy rv fys u' (by simpa using hu'), ?_⟩
  have ec : its.toArray.toList.countP (eqU y) = ys.countP (fun z => eqV z y) := cntU (K := X.K) fy ru rv fys
  refine ⟨.int (ys.countP (fun z => eqV z y) : Nat), H, I.tok _, ⟨s.toks, ?_⟩, q⟩
  rw [ec]
end Toy
/-! ### sum(t), a tuple of ints -/
namespace PySem
open PyProof.Rows
theorem sum_intTup {prog : Program} {w : World} {A : Around} {E : Value → Shared → Prop} {s : Shared} {l : Addr} {xs : Array (Int × Tok)} {Q : Value → Shared → Prop} (hh : A.handled = none) (hl : s.heap.IsTuple l (intItems xs))
    (h : ∀ (h' : Heap) (tk : Nat) (t' : Tok), (∀ b o, s.heap.get? b = some o → h'.get? b = some o) → Q (.int (preSum (numAt xs) xs.size) t') { s with heap := h', toks := tk }) :
    wpAny (model prog w) A (call (.builtin "sum") [.ref l]) Q E s := by
  have ll : l < s.heap.objs.size := by obtain ⟨_, ho, _⟩ := id hl; exact Heap.lt_size ho
  refine call_sum_walkG (wpAny_pyIter_tuple hl ?_)
  refine ⟨s.heap.objs.size, [s.heap.objs.size, l], [s.heap.objs.size], (intItems xs).size, fun i v => (intItems xs)[i]? = some v, fun i h => h.IsTupleIter s.heap.objs.size l i ∧ h.IsTuple l (intItems xs), numAt xs, rfl, Walks.tuple (show A.in1.handled = none from hh) s.heap.objs.size l (Nat.ne_of_lt ll) (intItems xs), ⟨⟨_, Heap.get?_push_size _ rfl, rfl, rfl⟩, hl.push _⟩, fun b hb => ?_, fun i v => intItems_at, fun h' tk t' hk => ?_⟩
  · have e' : b = s.heap.objs.size ∨ b = l := by simpa using hb
    rw [Heap.size_push]
    rcases e' with z | z
    · rw [z]; exact Nat.lt_succ_self _
    · rw [z]; exact Nat.lt_succ_of_lt ll
  · have kk : ∀ b o, s.heap.get? b = some o → h'.get? b = some o := fun b o e => by
      refine hk b o (fun z => ?_) (Heap.get?_push_of_some _ e)
      have z : b = s.heap.objs.size := by simpa using z
      have := Heap.lt_size e
      rw [z] at this
      exact absurd this (Nat.lt_irrefl _)
    have := h h' tk t' kk
    rw [show (intItems xs).size = xs.size from Array.size_map]
    exact this
end PySem
namespace Toy
open PySem PySem.Spec PyProof.Rows L2
theorem sum_rawT {prog : Program} {w : World} {A : Around} {E : Value → Shared → Prop} {s : Shared} {l : Addr} {its : List Value} {ns : List Int} {Q : Value → Shared → Prop} (hh : A.handled = none) (hl : s.heap.IsTuple l its.toArray) (hi : IntsAre its ns)
    (h : ∀ (h' : Heap) (tk : Nat) (t' : Tok), (∀ b o, s.heap.get? b = some o → h'.get? b = some o) → Q (.int ns.sum t') { s with heap := h', toks := tk }) : wpAny (model prog w) A (call (.builtin "sum") [.ref l]) Q E s := by
  obtain ⟨xs, e⟩ := hi.allInts.items
  have hn := hi.numsOf
  rw [e] at hl
  refine sum_intTup hh hl fun h' tk t' hk => ?_
  have := h h' tk t' hk
  rw [preSum_eq, List.take_of_length_le (by simp)]
  have e2 : numsOf (intItems xs).toList = ns := by rw [← e]; exact hn
  rw [nums_intItems xs] at e2
  rw [e2]
  exact this
def rSumT (K : PySem.W.Frag) : List V → Hp → VK → Prop := fun vs H Q => ∃ (a : Addr) (ns : List Int), vs = [V.ref a] ∧ SqT K H a (ns.map V.int) ∧ Q (.int ns.sum) H
theorem cr_sumT {X : Cx} (hc : X.calm = true) : CallR X (.builtin "sum") (rSumT X.K) := by
  intro pins s σ H xs us Q I r h
  obtain ⟨a, ns, rfl, hq, q⟩ := h
  obtain ⟨u, rfl, rx⟩ := vals1 r
  cases rx
  obtain ⟨its, rv, p, _⟩ := I.tuple hq
  exact sum_rawT (I.ok.hd hc) p rv.ints fun h' tk t' hk => ⟨.int ns.sum, H, I.kept hk, ⟨_, rfl⟩, q⟩
/-! ### text * int, some text -/
def rMulS : R2 := fun x y H Q => ∃ (z : Str) (k : Int), x = .str z ∧ y = .int k ∧ 0 ≤ k ∧ k ≤ 1000 ∧ z.length ≤ 1000 ∧ ∀ r : Str, Q (.str r) H
theorem fold_rep_size {α : Type} (a : Array α) : ∀ (n : Nat) (acc : Array α), (List.foldl (fun x1 x2 => x1 ++ x2) acc (List.replicate n a)).size = acc.size + n * a.size
  | 0, acc => by simp
  | n + 1, acc => by
    rw [List.replicate_succ, List.foldl_cons, fold_rep_size a n (acc ++ a), Array.size_append, Nat.add_mul, Nat.one_mul]
    omega
theorem op_mulS {X : Cx} : OpR X (binaryOp .Mult) rMulS := by
  rintro pins s σ H x y v u Q I ra rb ⟨z, k, rfl, rfl, k0, k1, zl, q⟩
  obtain ⟨t, rfl⟩ := ra
  obtain ⟨tk, rfl⟩ := rb
  refine wpAny_binaryOp_repeat (T := "str") (U := "int") (by decide) (fun s2 => typeIs_str s2 z t) (fun s2 => typeIs_int s2 k tk) noFill_str_mul F.fills_int_mul F.slot_int_rmul repeat_str F.slot_int_index.lookup ?_
  have a1 : (decide (k < -2 ^ 63) || decide (k ≥ 2 ^ 63)) = false := by rw [decide_eq_false (by omega), decide_eq_false (by omega)] <;> rfl
  have a2 : ¬ k < 1 → (k == 1 || z.length == 0) = false → ¬ (z.length : Int) > (2 ^ 63 - 1) / k := fun h1 _ h2 => by
    have h3 : (1000 : Int) ≤ (2 ^ 63 - 1) / k := by
      rw [Int.le_ediv_iff_mul_le (by omega)]
      omega
    omega
  have a3 : ¬ k < 1 → (k == 1 || z.length == 0) = false → Builtin.Str.tooLong (z.length * k.toNat) = false := fun h1 _ => by
    have h3 : z.length * k.toNat ≤ 1000 * 1000 := Nat.mul_le_mul zl (by omega)
    have h4 : 1000 * 1000 ≤ sizeLine := by decide
    unfold Builtin.Str.tooLong
    exact decide_eq_false (by omega)
  refine call_gives F.slot_int_rmul (typeIs_int s k tk) F.entry_int_rmul (F.args_int_rmul_2 _ _) (AutoIntG1.int___rmul___int_str_0 _ _ _ _) ?_
  refine ⟨rfl, ?_⟩
  refine call_gives F.slot_str_mul (typeIs_str _ z t) F.entry_str_mul (F.args_str_mul_2 _ _) (gives_str_mul z k t tk a1 a2 a3) ?_
  split
  · exact ⟨by decide, .str _, H, I.tok _, ⟨_, rfl⟩, q _⟩
  · split
    · exact ⟨.str _, H, I, ⟨_, rfl⟩, q _⟩
    · refine ⟨?_, .str _, H, I.tok _, ⟨_, rfl⟩, q _⟩
      have h3 : k.toNat * z.length ≤ 1000 * 1000 := Nat.mul_le_mul (by omega) zl
      show (List.foldl (fun x1 x2 => x1 ++ x2) #[] (List.replicate k.toNat z.cps)).size ≤ sizeLine
      rw [fold_rep_size]
      exact Nat.le_trans (show #[].size + k.toNat * z.length ≤ 1000 * 1000 by rw [show (#[] : Array Nat).size = 0 from rfl]; omega) (by decide)
end Toy
namespace L2
open PySem PySem.Spec PyProof.Rows
theorem tuple_mul1 (l : Addr) (items : Array Value) (n : Nat) (dd : Option Addr) (sl : Array (Option Value)) (u : Tok) :
    Meets (Builtin.«tuple.__mul__» ⟨[.ref l, .int 1 u], []⟩) (fun _ R s => s.heap.get? l = some { cls := .type "tuple", dict := dd, data := .seq items n, slots := sl } ∧ R (.ok (.ret (Value.ref l))) s) :=
  .of_wp fun prog w A R s h => by
    obtain ⟨hp, g, d, tk, os⟩ := s
    obtain ⟨hl, h⟩ := h
    have f1 := AutoSeq1.idx_int
    have c1 : (items.isEmpty || (1 : Int) == 1) = true := by simp
    wp_walk using wpAny_loadPart' hl
    repeat (first
      | (refine wpAny_ite_true (decide_eq_true c1) ?_; wp_walk using wpAny_loadPart' hl)
      | (refine wpAny_ite_false (decide_eq_false (by decide)) ?_; wp_walk using wpAny_loadPart' hl))
    exact ⟨_, rfl, h⟩
/-- a tuple, so many times -/
def rRepA (K : PySem.W.Frag) : R2 := fun x y H Q => (y = .int 1 ∧ (∃ l xs, x = .ref l ∧ SqT K H l xs) ∧ Q x H) ∨ rRepT K x y H Q
theorem op_repA {X : Cx} : OpR X (binaryOp .Mult) (rRepA X.K) := by
  intro pins s σ H x y v u Q I rx ry h
  rcases h with ⟨rfl, ⟨l, xs, rfl, hT⟩, q⟩ | h
  · cases rx
    obtain ⟨t, rfl⟩ := ry
    obtain ⟨its, r, ⟨⟨cls, dd, data, sl⟩, ho, hc, n, hd⟩, hs⟩ := I.tuple hT
    simp only at hc hd
    subst hc hd
    refine wpAny_binaryOp_repeat_ref (T := "tuple") (U := "int") (by decide) ⟨_, ho, rfl⟩ (fun s' => typeIs_int s' 1 t) noFill_tuple_mul F.fills_int_mul F.slot_int_rmul repeat_tuple F.slot_int_index.lookup
      (call_meets F.slot_int_rmul (typeIs_int s 1 t) F.entry_int_rmul (F.args_int_rmul_2 _ _) (int_rmul_tuple 1 t l its.toArray n dd sl)
        ⟨ho, rfl, ⟨_, ho, rfl⟩, call_meets F.slot_tuple_mul ⟨_, ho, rfl⟩ F.entry_tuple_mul (F.args_tuple_mul_2 _ _) (tuple_mul1 l its.toArray n dd sl t) ⟨ho, ?_⟩⟩)
    exact ⟨.ref l, H, I, rfl, q⟩
  · exact op_repT pins s σ H x y v u Q I rx ry h
end L2
namespace Toy
open PySem PySem.Spec PyProof.Rows L2
end Toy
/-! ### data that is compared: no truths in it -/
namespace Toy
open PySem PySem.Spec PyProof.Rows L2
mutual
def nb : PyData → Bool
  | .none => true
  | .bool _ => false
  | .int _ => true
  | .str _ => true
  | .list ds => nbs ds
  | .tuple ds => nbs ds
  | .dict _ => false
def nbs : List PyData → Bool
  | [] => true
  | d :: ds => nb d && nbs ds
end
theorem nbs_of : ∀ {ds : List PyData}, (∀ d ∈ ds, nb d = true) → nbs ds = true
  | [], _ => by simp [nbs]
  | d :: ds, h => by simp [nbs, h d List.mem_cons_self, nbs_of (ds := ds) fun x hx => h x (List.mem_cons_of_mem _ hx)]
mutual
theorem eqv_nb : ∀ d e : PyData, nb d = true → nb e = true → PyData.eqv d e = true → d = e
  | .none, e, _, h, q => by cases e <;> simp_all [PyData.eqv, nb]
  | .int i, e, _, h, q => by cases e <;> simp_all [PyData.eqv, nb]
  | .str x, e, _, h, q => by cases e <;> simp_all [PyData.eqv, nb]
  | .bool _, _, h, _, _ => by simp [nb] at h
  | .dict _, _, h, _, _ => by simp [nb] at h
  | .list ds, e, h, g, q => by
    cases e with
    | list es =>
      rw [PyData.eqv] at q
      exact congrArg PyData.list (eqvs_nb ds es (by simpa [nb] using h) (by simpa [nb] using g) q)
    | _ => simp [PyData.eqv] at q
  | .tuple ds, e, h, g, q => by
    cases e with
    | tuple es =>
      rw [PyData.eqv] at q
      exact congrArg PyData.tuple (eqvs_nb ds es (by simpa [nb] using h) (by simpa [nb] using g) q)
    | _ => simp [PyData.eqv] at q
theorem eqvs_nb : ∀ ds es : List PyData, nbs ds = true → nbs es = true → PyData.eqvAll ds es = true → ds = es
  | [], [], _, _, _ => rfl
  | [], _ :: _, _, _, q => by simp [PyData.eqvAll] at q
  | _ :: _, [], _, _, q => by simp [PyData.eqvAll] at q
  | d :: ds, e :: es, h, g, q => by
    simp only [nbs, Bool.and_eq_true] at h g
    simp only [PyData.eqvAll, Bool.and_eq_true] at q
    rw [eqv_nb d e h.1 g.1 q.1, eqvs_nb ds es h.2 g.2 q.2]
end
structure Ly (n : Nat) (d : PyData) : Prop where
  can : d.canLay0 = true
  dep : d.depth ≤ n
  no : nb d = true
theorem Ly.non {n : Nat} : Ly n .none := ⟨by simp [PyData.canLay0], by simp [PyData.depth], by simp [nb]⟩
theorem Ly.int {n : Nat} {i : Int} : Ly n (.int i) := ⟨by simp [PyData.canLay0], by simp [PyData.depth], by simp [nb]⟩
theorem Ly.str {n : Nat} {x : Str} (h : (PyData.str x).canLay0 = true := by decide +kernel) : Ly n (.str x) := ⟨h, by simp [PyData.depth], by simp [nb]⟩
theorem Ly.mono {n m : Nat} {d : PyData} (a : Ly n d) (h : n ≤ m) : Ly m d := ⟨a.can, Nat.le_trans a.dep h, a.no⟩
theorem can_all : ∀ {ds : List PyData}, (∀ d ∈ ds, d.canLay0 = true) → PyData.canLayAll0 ds = true
  | [], _ => by simp [PyData.canLayAll0]
  | d :: ds, h => by simp [PyData.canLayAll0, h d List.mem_cons_self, can_all (ds := ds) fun x hx => h x (List.mem_cons_of_mem _ hx)]
theorem dep_all {n : Nat} : ∀ {ds : List PyData}, (∀ d ∈ ds, d.depth ≤ n) → PyData.depthAll ds ≤ n
  | [], _ => by simp [PyData.depthAll]
  | d :: ds, h => by
    have h1 := h d List.mem_cons_self
    have h2 := dep_all (ds := ds) fun x hx => h x (List.mem_cons_of_mem _ hx)
    simp only [PyData.depthAll]
    omega
theorem Ly.lst {n : Nat} {ds : List PyData} (h : ∀ d ∈ ds, Ly n d) : Ly (n + 1) (.list ds) :=
  ⟨by simp only [PyData.canLay0]; exact can_all fun d hd => (h d hd).can, by simp only [PyData.depth]; have := dep_all fun d hd => (h d hd).dep; omega, by simp only [nb]; exact nbs_of fun d hd => (h d hd).no⟩
theorem Ly.tup {n : Nat} {ds : List PyData} (h : ∀ d ∈ ds, Ly n d) : Ly (n + 1) (.tuple ds) :=
  ⟨by simp only [PyData.canLay0]; exact can_all fun d hd => (h d hd).can, by simp only [PyData.depth]; have := dep_all fun d hd => (h d hd).dep; omega, by simp only [nb]; exact nbs_of fun d hd => (h d hd).no⟩
theorem Ly.tupI {ns : List Int} : Ly 1 (.tuple (ns.map PyData.int)) := .tup fun d hd => by obtain ⟨i, _, rfl⟩ := List.mem_map.mp hd; exact .int
theorem Ly.lstI {ns : List Int} : Ly 1 (.list (ns.map PyData.int)) := .lst fun d hd => by obtain ⟨i, _, rfl⟩ := List.mem_map.mp hd; exact .int
theorem Ly.tup2 {n : Nat} {a b : PyData} (ha : Ly n a) (hb : Ly n b) : Ly (n + 1) (.tuple [a, b]) := .tup fun d hd => by
  rcases List.mem_cons.mp hd with rfl | hd
  · exact ha
  · cases List.mem_singleton.mp hd; exact hb
theorem Ly.sh {n : Nat} {d : PyData} (a : Ly n d) (h : n ≤ 64 := by decide) : SeqAt.shaped d = true := by
  show (d.canLay0 && decide (d.depth ≤ 64)) = true
  rw [a.can, decide_eq_true (Nat.le_trans a.dep h)] <;> rfl
theorem Ly.refl {n : Nat} {d : PyData} (a : Ly n d) (h : n ≤ 64 := by decide) : PyData.eqv d d = true := SeqAt.eqv_refl _ (SeqAt.canLay_of_shaped (a.sh h))
theorem Ly.eq {n m : Nat} {d e : PyData} (a : Ly n d) (b : Ly m e) (h : PyData.eqv d e = true) : d = e := eqv_nb d e a.no b.no h
theorem Ly.ne {n m : Nat} {d e : PyData} (a : Ly n d) (b : Ly m e) (h : d ≠ e) : PyData.eqv d e = false := by
  cases c : PyData.eqv d e with
  | false => rfl
  | true => exact absurd (a.eq b c) h
theorem dpAll_of {K : PySem.W.Frag} {H : Hp} : ∀ {xs : List V} {ds : List PyData}, xs.length = ds.length → (∀ (i : Nat) (x : V) (d : PyData), xs[i]? = some x → ds[i]? = some d → Dp K H x d) → DpAll K H xs ds
  | [], [], _, _ => .nil
  | [], _ :: _, h, _ => by simp at h
  | _ :: _, [], h, _ => by simp at h
  | x :: xs, d :: ds, h, q => .cons (q 0 x d rfl rfl) (dpAll_of (by simpa using h) fun i y e h1 h2 => q (i + 1) y e (by simpa using h1) (by simpa using h2))
theorem dp_tup2 {K : PySem.W.Frag} {H : Hp} {p : Addr} {x y : V} {a b : PyData} (h : SqT K H p [x, y]) (ha : Dp K H x a) (hb : Dp K H y b) : Dp K H (.ref p) (.tuple [a, b]) := .tup h (.cons ha (.cons hb .nil))
/-! ### data: figures of a number -/
def fig (k n at_ : Nat) : Int := Builtin.bitAnd ((n : Int) / 2 ^ (((k : Int) - 1 - at_).toNat)) 1
def figs (k n : Nat) : List Int := (List.range k).map (fig k n)
def num (fs : List Int) : Int := fs.foldl (fun f o => 2 * f + o) 0
def lline (k h g lv : Nat) : Int := num ((figs k g).take lv ++ (figs k h).drop lv)
def low (k h g lv : Nat) : Int := Builtin.bitOr ((g : Int) / 2 ^ ((k : Int) - lv).toNat * 2 ^ ((k : Int) - lv).toNat) (Builtin.bitAnd h (1 * 2 ^ ((k : Int) - lv).toNat - 1))
def nwo (k l st : Nat) : Int := Builtin.bitOr ((l : Int) / 2 ^ ((k : Int) - st + 1).toNat * 2 ^ ((k : Int) - st).toNat) (Builtin.bitAnd l (1 * 2 ^ ((k : Int) - st).toNat - 1))
def nums (k l st : Nat) : Int := num ((figs k l).take (st - 1) ++ (figs k l).drop st)
theorem low_is : ∀ k, k < 5 → ∀ h, h < 2 ^ k → ∀ g, g < 2 ^ k → ∀ lv, lv < k + 1 → low k h g lv = lline k h g lv := by decide +kernel
theorem lline_in : ∀ k, k < 5 → ∀ h, h < 2 ^ k → ∀ g, g < 2 ^ k → ∀ lv, lv < k + 1 → 0 ≤ lline k h g lv ∧ lline k h g lv < 2 ^ k := by decide +kernel
theorem nwo_is : ∀ k, k < 5 → ∀ l, l < 2 ^ k → ∀ st, st < k + 1 → st = 0 ∨ nwo k l st = nums k l st := by decide +kernel
theorem nums_same : ∀ k, k < 5 → ∀ h, h < 2 ^ k → ∀ g, g < 2 ^ k → ∀ st, st < k → nums k (lline k h g (st + 1)).toNat (st + 1) = nums k (lline k h g st).toNat (st + 1) := by decide +kernel
theorem cut_to {xs : List V} (n : Nat) : cutV xs none (some (n : Int)) = xs.take n := by
  unfold cutV
  rw [HT.sIx_nat, HT.sIx_none, List.drop_zero, Nat.sub_zero]
  by_cases c : n ≤ xs.length
  · rw [Nat.min_eq_left c]
  · rw [Nat.min_eq_right (by omega), List.take_length, List.take_of_length_le (by omega)]
theorem cut_from {xs : List V} (n : Nat) : cutV xs (some (n : Int)) none = xs.drop n := by
  unfold cutV
  rw [HT.sIx_nat, HT.sIx_none]
  by_cases c : n ≤ xs.length
  · rw [Nat.min_eq_left c]
    exact List.take_of_length_le (by rw [List.length_drop]; omega)
  · rw [Nat.min_eq_right (by omega), Nat.sub_self, List.take_zero, List.drop_of_length_le (by omega)]
theorem bits_one : Builtin.Int.intBits 1 ≤ 10 := by decide +kernel
theorem shl_ok {n : Nat} (h : n ≤ 1000) : CShl 1 (n : Int) := by
  have := bits_one
  exact ⟨by omega, by omega⟩
theorem shl_small {i j : Int} (h : i.natAbs < 2 ^ 64) (h0 : 0 ≤ j) (h1 : j ≤ 1000) : CShl i j := by
  refine ⟨h0, ?_⟩
  have h2 := log_lt (n := 64) (by decide) h
  unfold Builtin.Int.intBits
  split <;> omega
theorem div_small {g m : Nat} (h : g < 2 ^ 64) : ((g : Int) / 2 ^ m).natAbs < 2 ^ 64 := by
  have e : (g : Int) / 2 ^ m = ((g / 2 ^ m : Nat) : Int) := by push_cast; rfl
  rw [e, Int.natAbs_natCast]
  exact Nat.lt_of_le_of_lt (Nat.div_le_self _ _) h
theorem pow16 {k g : Nat} (hk : k ≤ 4) (h : g < 2 ^ k) : g < 16 := Nat.lt_of_lt_of_le h (Nat.pow_le_pow_right (by decide) hk : 2 ^ k ≤ 2 ^ 4)
def Bits (fs : List Int) : Prop := (∀ x ∈ fs, 0 ≤ x ∧ x ≤ 1) ∧ fs.length ≤ 10
theorem figs_all : ∀ k, k < 5 → ∀ n, n < 2 ^ k → (figs k n).all (fun x => decide (0 ≤ x) && decide (x ≤ 1)) = true := by decide +kernel
theorem figs_bits {k n : Nat} (h : k ≤ 4) (hn : n < 2 ^ k) : Bits (figs k n) := by
  have h1 := figs_all k (by omega) n hn
  rw [List.all_eq_true] at h1
  refine ⟨fun x hx => ?_, by unfold figs; rw [List.length_map, List.length_range]; omega⟩
  have := h1 x hx
  simpa using this
theorem Bits.cat {k : Nat} {xs ys : List Int} (h : k ≤ 4) (a : ∀ x ∈ xs, 0 ≤ x ∧ x ≤ 1) (b : ∀ x ∈ ys, 0 ≤ x ∧ x ≤ 1) (i j : Nat) (hx : xs.length ≤ 5) (hy : ys.length ≤ 5) : Bits (xs.take i ++ ys.drop j) := by
  refine ⟨fun x hm => ?_, by rw [List.length_append, List.length_take, List.length_drop]; omega⟩
  rcases List.mem_append.mp hm with h | h
  · exact a x (List.mem_of_mem_take h)
  · exact b x (List.mem_of_mem_drop h)
theorem num_snoc {fs : List Int} {x : Int} : num (fs ++ [x]) = 2 * num fs + x := by unfold num; rw [List.foldl_append] <;> rfl
theorem num_in : ∀ {fs : List Int} (n : Nat), Bits fs → 0 ≤ num (fs.take n) ∧ num (fs.take n) < 2 ^ n := by
  intro fs n h
  induction n with
  | zero => rw [List.take_zero]; exact ⟨by decide, by decide⟩
  | succ n ih =>
    by_cases c : n < fs.length
    · rw [List.take_succ_eq_append_getElem c, num_snoc]
      have := h.1 _ (List.getElem_mem c)
      have e : (2 : Int) ^ (n + 1) = 2 ^ n * 2 := Int.pow_succ 2 n
      omega
    · rw [List.take_of_length_le (by omega)]
      rw [List.take_of_length_le (by omega)] at ih
      have e : (2 : Int) ^ (n + 1) = 2 ^ n * 2 := Int.pow_succ 2 n
      omega
theorem figs_len {k n : Nat} : (figs k n).length = k := by unfold figs; rw [List.length_map, List.length_range]
theorem repF_len {n : Nat} : ((List.replicate n false).map V.bl).length = n := by rw [List.length_map, List.length_replicate]
theorem repF_snoc {n : Nat} : (List.replicate n false).map V.bl ++ [V.bl false] = (List.replicate (n + 1) false).map V.bl := by rw [List.replicate_succ', List.map_append] <;> rfl
theorem repF_any (n : Nat) : (List.replicate n false).any id = false := by
  induction n with
  | zero => rfl
  | succ n ih => rw [List.replicate_succ, List.any_cons, ih] <;> rfl
def SwAt (H : Hp) (T : Addr) (k h g : Nat) : Prop := ∃ as : List Addr, H T = some (.tup (as.map V.ref)) ∧ as.length = k ∧ ∀ (j : Nat) (a : Addr), as[j]? = some a → H a = some (.tup [.int ((j + 1 : Nat) : Int), .int (nwo k (lline k h g j).toNat (j + 1))])
theorem primes6 : ∀ j : Nat, j < 6 → ∃ z : Int, ([.int 2147483647, .int 2147483629, .int 2147483587, .int 2147483579, .int 2147483563, .int 2147483549] : List V)[j]? = some (.int z) ∧ 2147483549 ≤ z ∧ z ≤ 2147483647
  | 0, _ => ⟨_, rfl, by decide, by decide⟩
  | 1, _ => ⟨_, rfl, by decide, by decide⟩
  | 2, _ => ⟨_, rfl, by decide, by decide⟩
  | 3, _ => ⟨_, rfl, by decide, by decide⟩
  | 4, _ => ⟨_, rfl, by decide, by decide⟩
  | 5, _ => ⟨_, rfl, by decide, by decide⟩
  | n + 6, h => absurd h (by omega)
/-! ### rows of pairs -/
def PtsAt (H : Hp) (ts : List Addr) (ps : List (Nat × Nat)) : Prop := ts.length = ps.length ∧ ∀ (j : Nat) (t : Addr) (p : Nat × Nat), ts[j]? = some t → ps[j]? = some p → H t = some (.tup [.int (p.1 : Nat), .int (p.2 : Nat)])
theorem PtsAt.same {H H' : Hp} {ts : List Addr} {ps : List (Nat × Nat)} (e : Same H H') (h : PtsAt H ts ps) : PtsAt H' ts ps := ⟨h.1, fun j t p h1 h2 => e _ _ (h.2 j t p h1 h2)⟩
theorem PtsAt.app {H : Hp} {ts us : List Addr} {ps qs : List (Nat × Nat)} (a : PtsAt H ts ps) (b : PtsAt H us qs) : PtsAt H (ts ++ us) (ps ++ qs) := by
  refine ⟨by rw [List.length_append, List.length_append, a.1, b.1], fun j t p h1 h2 => ?_⟩
  by_cases c : j < ts.length
  · rw [List.getElem?_append_left c] at h1
    rw [List.getElem?_append_left (by rw [← a.1]; exact c)] at h2
    exact a.2 j t p h1 h2
  · rw [List.getElem?_append_right (by omega)] at h1
    rw [List.getElem?_append_right (by rw [← a.1]; omega)] at h2
    rw [← a.1] at h2
    exact b.2 _ t p h1 h2
theorem PtsAt.one {H : Hp} {t : Addr} {p : Nat × Nat} (h : H t = some (.tup [.int (p.1 : Nat), .int (p.2 : Nat)])) : PtsAt H [t] [p] := by
  refine ⟨rfl, fun j t' p' h1 h2 => ?_⟩
  cases j with
  | zero => cases (Option.some.inj h1); cases (Option.some.inj h2); exact h
  | succ j => simp at h1
theorem PtsAt.keep {H H' : Hp} {ts : List Addr} {ps : List (Nat × Nat)} (h : PtsAt H ts ps) (k : ∀ t xs, H t = some (.tup xs) → H' t = some (.tup xs)) : PtsAt H' ts ps :=
  ⟨h.1, fun j t p h1 h2 => k _ _ (h.2 j t p h1 h2)⟩
/-- each is a pair of a hand and a side -/
def APr (H : Hp) (k : Nat) (ts : List Addr) : Prop := ∀ t ∈ ts, ∃ h g : Nat, H t = some (.tup [.int (h : Nat), .int (g : Nat)]) ∧ h < 2 ^ k ∧ g < 2 ^ k
theorem APr.same {H H' : Hp} {k : Nat} {ts : List Addr} (e : Same H H') (a : APr H k ts) : APr H' k ts := fun t ht => by
  obtain ⟨h, g, h1, h2⟩ := a t ht
  exact ⟨h, g, e _ _ h1, h2⟩
theorem APr.keep {H H' : Hp} {k : Nat} {ts : List Addr} (e : ∀ t xs, H t = some (.tup xs) → H' t = some (.tup xs)) (a : APr H k ts) : APr H' k ts := fun t ht => by
  obtain ⟨h, g, h1, h2⟩ := a t ht
  exact ⟨h, g, e _ _ h1, h2⟩
theorem APr.sub {H : Hp} {k : Nat} {ts us : List Addr} (a : APr H k ts) (h : ∀ t ∈ us, t ∈ ts) : APr H k us := fun t ht => a t (h t ht)
theorem APr.app {H : Hp} {k : Nat} {ts us : List Addr} (a : APr H k ts) (b : APr H k us) : APr H k (ts ++ us) := fun t ht => (List.mem_append.mp ht).elim (a t) (b t)
theorem APr.pts {H : Hp} {k : Nat} : ∀ {ts : List Addr}, APr H k ts → ∃ ps, PtsAt H ts ps ∧ ∀ p ∈ ps, p.1 < 2 ^ k ∧ p.2 < 2 ^ k
  | [], _ => ⟨[], ⟨rfl, fun j t p h => by simp at h⟩, fun p hp => absurd hp List.not_mem_nil⟩
  | t :: ts, a => by
    obtain ⟨h, g, h1, h2, h3⟩ := a t List.mem_cons_self
    obtain ⟨ps, q1, q2⟩ := APr.pts (a.sub fun t ht => List.mem_cons_of_mem _ ht)
    refine ⟨(h, g) :: ps, PtsAt.app (ts := [t]) (ps := [(h, g)]) (PtsAt.one h1) q1, fun p hp => ?_⟩
    rcases List.mem_cons.mp hp with e | e
    · rw [e]; exact ⟨h2, h3⟩
    · exact q2 p e
theorem PtsAt.rev {H : Hp} {ts : List Addr} {ps : List (Nat × Nat)} (a : PtsAt H ts ps) : PtsAt H ts.reverse ps.reverse := by
  refine ⟨by rw [List.length_reverse, List.length_reverse, a.1], fun j t p h1 h2 => ?_⟩
  have l1 := (List.getElem?_eq_some_iff.mp h1).1
  have l2 := (List.getElem?_eq_some_iff.mp h2).1
  rw [List.length_reverse] at l1 l2
  rw [List.getElem?_reverse l1] at h1
  rw [List.getElem?_reverse l2] at h2
  rw [← a.1] at h2
  exact a.2 _ t p h1 h2
theorem APr.rev {H : Hp} {k : Nat} {ts : List Addr} (a : APr H k ts) : APr H k ts.reverse := a.sub fun t ht => List.mem_reverse.mp ht
/-! ### the first shared line: the plain law -/
def lns (k : Nat) (ps : List (Nat × Nat)) (lv : Nat) : List Int := ps.map fun p => lline k p.1 p.2 lv
def Rp (L : List Int) (x : Int) : Prop := 1 < L.count x
def Fst (f : Nat → List Int) (k : Nat) : Option (Nat × Int) → Prop
  | none => ∀ lv, lv ≤ k → ∀ x, ¬ Rp (f lv) x
  | some (lv, x) => lv ≤ k ∧ Rp (f lv) x ∧ (∀ y, Rp (f lv) y → x ≤ y) ∧ ∀ lv', lv' < lv → ∀ y, ¬ Rp (f lv') y
theorem Fst.uniq {f : Nat → List Int} {k : Nat} {r r' : Option (Nat × Int)} (a : Fst f k r) (b : Fst f k r') : r = r' := by
  cases r with
  | none =>
    cases r' with
    | none => rfl
    | some p =>
      obtain ⟨lv, x⟩ := p
      obtain ⟨b1, b2, _⟩ := b
      exact absurd b2 (a lv b1 x)
  | some p =>
    obtain ⟨lv, x⟩ := p
    obtain ⟨a1, a2, a3, a4⟩ := a
    cases r' with
    | none => exact absurd a2 (b lv a1 x)
    | some p' =>
      obtain ⟨lv', x'⟩ := p'
      obtain ⟨b1, b2, b3, b4⟩ := b
      have e : lv = lv' := by
        rcases Nat.lt_trichotomy lv lv' with c | c | c
        · exact absurd a2 (b4 lv c x)
        · exact c
        · exact absurd b2 (a4 lv' c x')
      subst e
      have e2 : x = x' := Int.le_antisymm (a3 x' b2) (b3 x a2)
      rw [e2]
theorem Fst.perm {f g : Nat → List Int} {k : Nat} {r : Option (Nat × Int)} (h : ∀ lv, (f lv).Perm (g lv)) (a : Fst f k r) : Fst g k r := by
  have e : ∀ lv x, Rp (g lv) x ↔ Rp (f lv) x := fun lv x => by unfold Rp; rw [(h lv).count_eq]
  cases r with
  | none => exact fun lv hl x c => a lv hl x ((e lv x).mp c)
  | some p =>
    obtain ⟨lv, x⟩ := p
    obtain ⟨a1, a2, a3, a4⟩ := a
    exact ⟨a1, (e _ _).mpr a2, fun y hy => a3 y ((e _ _).mp hy), fun lv' h' y hy => a4 lv' h' y ((e _ _).mp hy)⟩
theorem lns_rev {k : Nat} {ps : List (Nat × Nat)} {lv : Nat} : (lns k ps.reverse lv).Perm (lns k ps lv) := by
  unfold lns
  rw [List.map_reverse]
  exact List.reverse_perm _
theorem nodup_count : ∀ {S : List Int} (y : Int), S.Nodup → S.count y ≤ 1
  | [], _, _ => by simp
  | x :: S, y, h => by
    rw [List.nodup_cons] at h
    rw [List.count_cons]
    have ih := nodup_count y h.2
    by_cases c : x = y
    · subst c
      rw [List.count_eq_zero.mpr h.1]
      split <;> omega
    · rw [if_neg (by simpa using c)]
      omega
/-- in a sorted row the first two neighbours that are alike are the least that is there twice -/
theorem sorted_next {S : List Int} (h : S.Pairwise (· ≤ ·)) {i : Nat} {x : Int} (h1 : S[i]? = some x) (h2 : S[i + 1]? = some x) : Rp S x := by
  obtain ⟨l1, e1⟩ := List.getElem?_eq_some_iff.mp h1
  obtain ⟨l2, e2⟩ := List.getElem?_eq_some_iff.mp h2
  have e : S = S.take i ++ x :: x :: S.drop (i + 2) := by
    conv => lhs; rw [← List.take_append_drop i S]
    congr 1
    rw [List.drop_eq_getElem_cons l1, List.drop_eq_getElem_cons l2, e1, e2]
  unfold Rp
  rw [e, List.count_append, List.count_cons_self, List.count_cons_self]
  omega
theorem no_next {S : List Int} (h : S.Pairwise (· ≤ ·)) {i : Nat} (hn : ∀ j x, j < i → S[j]? = some x → S[j + 1]? ≠ some x) : ∀ y, Rp S y → ∀ x, S[i]? = some x → x ≤ y := by
  intro y hy x hx
  -- else all y stand ahead of i, and no two of them beside one another
  refine Classical.byContradiction fun c => ?_
  have c2 : y < x := by omega
  obtain ⟨li, ei⟩ := List.getElem?_eq_some_iff.mp hx
  have strict : ∀ a b : Nat, ∀ (hab : a < b) (hb : b < S.length), b ≤ i → S[a]'(by omega) < S[b] := by
    intro a b hab
    induction b with
    | zero => omega
    | succ b ih =>
      intro hb hbi
      have h3 := List.pairwise_iff_getElem.mp h b (b + 1) (by omega) hb (by omega)
      have h4 : S[b]'(by omega) ≠ S[b + 1] := fun z => hn b (S[b]'(by omega)) (by omega) (List.getElem?_eq_getElem (by omega)) (by rw [List.getElem?_eq_getElem hb, z])
      rcases Nat.lt_or_ge a b with q | q
      · have := ih q (by omega) (by omega)
        omega
      · obtain rfl : a = b := by omega
        omega
  have one : (S.take (i + 1)).count y ≤ 1 := by
    have nd : (S.take (i + 1)).Nodup := by
      rw [List.nodup_iff_pairwise_ne, List.pairwise_iff_getElem]
      intro a b ha hb hab
      rw [List.length_take] at ha hb
      rw [List.getElem_take, List.getElem_take]
      have := strict a b hab (by omega) (by omega)
      omega
    exact nodup_count y nd
  have zero : (S.drop (i + 1)).count y = 0 := by
    rw [List.count_eq_zero]
    intro m
    obtain ⟨j, hj, e⟩ := List.getElem_of_mem m
    rw [List.length_drop] at hj
    rw [List.getElem_drop] at e
    have := List.pairwise_iff_getElem.mp h i (i + 1 + j) li (by omega) (by omega)
    omega
  have : S.count y = (S.take (i + 1)).count y + (S.drop (i + 1)).count y := by rw [← List.count_append, List.take_append_drop]
  unfold Rp at hy
  omega
theorem no_rep {S : List Int} (h : S.Pairwise (· ≤ ·)) (hn : ∀ j x, S[j]? = some x → S[j + 1]? ≠ some x) : ∀ y, ¬ Rp S y := by
  intro y hy
  have nd : S.Nodup := by
    rw [List.nodup_iff_pairwise_ne, List.pairwise_iff_getElem]
    intro a b ha hb hab
    have strict : ∀ b : Nat, a < b → ∀ (hb : b < S.length), S[a] < S[b] := by
      intro b hab
      induction b with
      | zero => omega
      | succ b ih =>
        intro hb
        have h3 := List.pairwise_iff_getElem.mp h b (b + 1) (by omega) hb (by omega)
        have h4 : S[b]'(by omega) ≠ S[b + 1] := fun z => hn b (S[b]'(by omega)) (List.getElem?_eq_getElem (by omega)) (by rw [List.getElem?_eq_getElem hb, z])
        rcases Nat.lt_or_ge a b with q | q
        · have := ih q (by omega)
          omega
        · obtain rfl : a = b := by omega
          omega
    have := strict b hab hb
    omega
  have := nodup_count y nd
  unfold Rp at hy
  omega
/-! settings (k35): plain facts of figures, lines and switches; wants st3d -/
def fg (k n st : Nat) : Int := Builtin.bitAnd ((n : Int) / 2 ^ ((k : Int) - st).toNat) 1
/-- the line after a switch: crossed where c is 1 -/
def stp (k : Nat) (l : Int) (st : Nat) (c : Int) : Int := Builtin.bitXor l (c * 2 ^ ((k : Int) - st).toNat)
theorem fg_fig : ∀ k, k < 5 → ∀ n, n < 2 ^ k → ∀ i, i < k → fig k n i = fg k n (i + 1) := by decide +kernel
theorem fg_bit : ∀ k, k < 5 → ∀ n, n < 2 ^ k → ∀ i, i < k → fg k n (i + 1) = 0 ∨ fg k n (i + 1) = 1 := by decide +kernel
theorem low_zero : ∀ k, k < 5 → ∀ h, h < 2 ^ k → ∀ g, g < 2 ^ k → low k h g 0 = (h : Nat) := by decide +kernel
theorem low_all : ∀ k, k < 5 → ∀ h, h < 2 ^ k → ∀ g, g < 2 ^ k → low k h g k = (g : Nat) := by decide +kernel
theorem low_step : ∀ k, k < 5 → ∀ h, h < 2 ^ k → ∀ g, g < 2 ^ k → ∀ j, j < k → low k h g (j + 1) = stp k (low k h g j) (j + 1) (Builtin.bitXor (fg k h (j + 1)) (fg k g (j + 1))) := by decide +kernel
theorem nwo_two : ∀ k, k < 5 → ∀ l : Nat, l < 2 ^ k → ∀ m : Nat, m < 2 ^ k → ∀ j, j < k → ¬ nwo k l (j + 1) = nwo k m (j + 1) ∨ l = m ∨ (m : Int) = stp k l (j + 1) 1 := by decide +kernel
theorem nwo_in : ∀ k, k < 5 → ∀ l : Nat, l < 2 ^ k → ∀ j, j < k → 0 ≤ nwo k l (j + 1) ∧ nwo k l (j + 1) < 2 ^ (k - 1) := by decide +kernel
theorem nwo_stp : ∀ k, k < 5 → ∀ l : Nat, l < 2 ^ k → ∀ j, j < k → nwo k (stp k l (j + 1) 1).toNat (j + 1) = nwo k l (j + 1) := by decide +kernel
theorem stp_in : ∀ k, k < 5 → ∀ l : Nat, l < 2 ^ k → ∀ j, j < k → 0 ≤ stp k l (j + 1) 1 ∧ stp k l (j + 1) 1 < 2 ^ k := by decide +kernel
theorem stp_zero : ∀ k, k < 5 → ∀ l : Nat, l < 2 ^ k → ∀ j, j < k → stp k l (j + 1) 0 = (l : Nat) := by decide +kernel
theorem stp_two : ∀ k, k < 5 → ∀ l : Nat, l < 2 ^ k → ∀ j, j < k → stp k (stp k l (j + 1) 1).toNat (j + 1) 1 = (l : Nat) := by decide +kernel
theorem nwo_onto : ∀ k, k < 5 → ∀ j, j < k → ∀ n, n < 2 ^ (k - 1) → ∃ l, l < 2 ^ k ∧ nwo k l (j + 1) = (n : Nat) := by decide +kernel
theorem turn_line : ∀ k, k < 5 → ∀ l : Nat, l < 2 ^ k → ∀ j, j < k → num ((figs k l).set j (1 - fig k l j)) = stp k l (j + 1) 1 := by decide +kernel
theorem stp_far : ∀ k, k < 5 → ∀ l : Nat, l < 2 ^ k → ∀ j, j < k → ∀ i, i < k → i ≠ j → fg k (stp k l (j + 1) 1).toNat (i + 1) = fg k l (i + 1) := by decide +kernel
theorem stp_near : ∀ k, k < 5 → ∀ l : Nat, l < 2 ^ k → ∀ j, j < k → fg k (stp k l (j + 1) 1).toNat (j + 1) = 1 - fg k l (j + 1) := by decide +kernel
/-- the line after j stages, by settings told as numbers -/
def la (k : Nat) (s : Nat → Nat → Int) (h : Nat) : Nat → Nat
  | 0 => h
  | j + 1 => (stp k (la k s h j : Nat) (j + 1) (s j (nwo k (la k s h j) (j + 1)).toNat)).toNat
def Bt (s : Nat → Nat → Int) : Prop := ∀ j n, s j n = 0 ∨ s j n = 1
theorem stp_bit {k l j : Nat} {c : Int} (hk : k < 5) (hl : l < 2 ^ k) (hj : j < k) (hc : c = 0 ∨ c = 1) :
    0 ≤ stp k l (j + 1) c ∧ (stp k l (j + 1) c).toNat < 2 ^ k ∧ (∀ i, i < k → i ≠ j → fg k (stp k l (j + 1) c).toNat (i + 1) = fg k l (i + 1)) ∧ fg k (stp k l (j + 1) c).toNat (j + 1) = Builtin.bitXor (fg k l (j + 1)) c := by
  rcases hc with rfl | rfl
  · rw [stp_zero k hk l hl j hj]
    refine ⟨Int.natCast_nonneg _, by rw [Int.toNat_natCast]; exact hl, fun i _ _ => by rw [Int.toNat_natCast], ?_⟩
    rw [Int.toNat_natCast]
    rcases fg_bit k hk l hl j hj with e | e <;> rw [e] <;> decide
  · have h1 := stp_in k hk l hl j hj
    refine ⟨h1.1, ?_, fun i hi hij => stp_far k hk l hl j hj i hi hij, ?_⟩
    · have h2 := h1.2
      have e : ((2 ^ k : Nat) : Int) = 2 ^ k := by push_cast; rfl
      omega
    · rw [stp_near k hk l hl j hj]
      rcases fg_bit k hk l hl j hj with e | e <;> rw [e] <;> decide
theorem la_in {k : Nat} {s : Nat → Nat → Int} {h : Nat} (hk : k < 5) (hs : Bt s) (hh : h < 2 ^ k) : ∀ j, j ≤ k → la k s h j < 2 ^ k
  | 0, _ => hh
  | j + 1, hj => (stp_bit hk (la_in hk hs hh j (by omega)) (by omega) (hs _ _)).2.1
theorem la_far {k : Nat} {s : Nat → Nat → Int} {h : Nat} (hk : k < 5) (hs : Bt s) (hh : h < 2 ^ k) : ∀ j, j ≤ k → ∀ i, j ≤ i → i < k → fg k (la k s h j) (i + 1) = fg k h (i + 1)
  | 0, _, _, _, _ => rfl
  | j + 1, hj, i, hi, hik => by
    have h1 := (stp_bit hk (la_in hk hs hh j (by omega)) (show j < k by omega) (hs j (nwo k (la k s h j) (j + 1)).toNat)).2.2.1 i hik (by omega)
    exact h1.trans (la_far hk hs hh j (by omega) i (by omega) hik)
theorem la_keep {k : Nat} {s : Nat → Nat → Int} {h : Nat} (hk : k < 5) (hs : Bt s) (hh : h < 2 ^ k) {i : Nat} : ∀ m, i + 1 + m ≤ k → fg k (la k s h (i + 1 + m)) (i + 1) = fg k (la k s h (i + 1)) (i + 1)
  | 0, _ => rfl
  | m + 1, hm => by
    have h1 := (stp_bit hk (la_in hk hs hh (i + 1 + m) (by omega)) (show i + 1 + m < k by omega) (hs (i + 1 + m) (nwo k (la k s h (i + 1 + m)) (i + 1 + m + 1)).toNat)).2.2.1 i (by omega) (by omega)
    exact h1.trans (la_keep hk hs hh m (by omega))
/-- what settings that lead h to g tell at each stage -/
theorem la_xor {k : Nat} {s : Nat → Nat → Int} {h g : Nat} (hk : k < 5) (hs : Bt s) (hh : h < 2 ^ k) (hg : la k s h k = g) {j : Nat} (hj : j < k) :
    s j (nwo k (la k s h j) (j + 1)).toNat = Builtin.bitXor (fg k h (j + 1)) (fg k g (j + 1)) := by
  have h1 := (stp_bit hk (la_in hk hs hh j (by omega)) hj (hs j (nwo k (la k s h j) (j + 1)).toNat)).2.2.2
  have h2 := la_far hk hs hh j (by omega) j (Nat.le_refl _) hj
  have h3 := la_keep hk hs hh (i := j) (k - (j + 1)) (by omega)
  rw [show j + 1 + (k - (j + 1)) = k by omega, hg] at h3
  rw [h3]
  have h4 : fg k (la k s h (j + 1)) (j + 1) = Builtin.bitXor (fg k h (j + 1)) (s j (nwo k (la k s h j) (j + 1)).toNat) := by rw [← h2]; exact h1
  rw [h4]
  rcases hs j (nwo k (la k s h j) (j + 1)).toNat with e | e <;> rcases fg_bit k hk h hh j hj with e2 | e2 <;> rw [e, e2] <;> decide
theorem la_low {k : Nat} {s : Nat → Nat → Int} {h g : Nat} (hk : k < 5) (hs : Bt s) (hh : h < 2 ^ k) (hg : la k s h k = g) : ∀ j, j ≤ k → ((la k s h j : Nat) : Int) = low k h g j
  | 0, _ => (low_zero k hk h hh g (by rw [← hg]; exact la_in hk hs hh k (Nat.le_refl _))).symm
  | j + 1, hj => by
    have hgi : g < 2 ^ k := by rw [← hg]; exact la_in hk hs hh k (Nat.le_refl _)
    rw [low_step k hk h hh g hgi j (by omega), ← la_xor hk hs hh hg (show j < k by omega), ← la_low hk hs hh hg j (by omega)]
    exact Int.toNat_of_nonneg (stp_bit hk (la_in hk hs hh j (by omega)) (show j < k by omega) (hs _ _)).1
/-- each stage keeps lines apart -/
theorem la_inj {k : Nat} {s : Nat → Nat → Int} {h h' : Nat} (hk : k < 5) (hs : Bt s) (hh : h < 2 ^ k) (hh' : h' < 2 ^ k) : ∀ j, j ≤ k → la k s h j = la k s h' j → h = h'
  | 0, _, e => e
  | j + 1, hj, e => by
    refine la_inj hk hs hh hh' j (by omega) ?_
    have i1 := la_in hk hs hh j (by omega)
    have i2 := la_in hk hs hh' j (by omega)
    have jk : j < k := by omega
    have e' : (stp k (la k s h j : Nat) (j + 1) (s j (nwo k (la k s h j) (j + 1)).toNat)).toNat = (stp k (la k s h' j : Nat) (j + 1) (s j (nwo k (la k s h' j) (j + 1)).toNat)).toNat := e
    have n1 : ∀ (l : Nat) (c : Int), l < 2 ^ k → (c = 0 ∨ c = 1) → nwo k (stp k l (j + 1) c).toNat (j + 1) = nwo k l (j + 1) := by
      intro l c hl hc
      rcases hc with rfl | rfl
      · rw [stp_zero k hk l hl j jk, Int.toNat_natCast]
      · exact nwo_stp k hk l hl j jk
    have en : nwo k (la k s h j) (j + 1) = nwo k (la k s h' j) (j + 1) := by
      rw [← n1 _ _ i1 (hs j (nwo k (la k s h j) (j + 1)).toNat), e', n1 _ _ i2 (hs j _)]
    rw [en] at e'
    rcases hs j (nwo k (la k s h' j) (j + 1)).toNat with c | c
    · rw [c, stp_zero k hk _ i1 j jk, stp_zero k hk _ i2 j jk, Int.toNat_natCast, Int.toNat_natCast] at e'
      exact e'
    · rw [c] at e'
      have t1 := stp_two k hk _ i1 j jk
      have t2 := stp_two k hk _ i2 j jk
      rw [e', t2] at t1
      exact (Int.ofNat.inj t1).symm
def crs (k h g j : Nat) : Int := Builtin.bitXor (fg k h (j + 1)) (fg k g (j + 1))
theorem crs_bit {k h g j : Nat} (hk : k < 5) (hh : h < 2 ^ k) (hg : g < 2 ^ k) (hj : j < k) : crs k h g j = 0 ∨ crs k h g j = 1 := by
  unfold crs
  rcases fg_bit k hk h hh j hj with e | e <;> rcases fg_bit k hk g hg j hj with e2 | e2 <;> rw [e, e2] <;> decide
theorem low_nat {k h g j : Nat} (hk : k < 5) (hh : h < 2 ^ k) (hg : g < 2 ^ k) (hj : j ≤ k) : low k h g j = ((low k h g j).toNat : Nat) ∧ (low k h g j).toNat < 2 ^ k := by
  have h1 := lline_in k hk h hh g hg j (by omega)
  rw [← low_is k hk h hh g hg j (by omega)] at h1
  have e : ((2 ^ k : Nat) : Int) = 2 ^ k := by push_cast; rfl
  omega
/-- settings that tell the crossings lead h to g -/
theorem la_by {k : Nat} {s : Nat → Nat → Int} {h g : Nat} (hk : k < 5) (hh : h < 2 ^ k) (hg : g < 2 ^ k)
    (hs : ∀ j, j < k → s j (nwo k (low k h g j).toNat (j + 1)).toNat = crs k h g j) : ∀ j, j ≤ k → ((la k s h j : Nat) : Int) = low k h g j
  | 0, _ => (low_zero k hk h hh g hg).symm
  | j + 1, hj => by
    have ih := la_by hk hh hg hs j (by omega)
    have e1 : la k s h j = (low k h g j).toNat := by omega
    have l1 := low_nat hk hh hg (show j ≤ k by omega)
    have l2 := low_nat hk hh hg hj
    have st := low_step k hk h hh g hg j (by omega)
    show (((stp k (la k s h j : Nat) (j + 1) (s j (nwo k (la k s h j) (j + 1)).toNat)).toNat : Nat) : Int) = _
    rw [e1, hs j (by omega)]
    have e2 : stp k ((low k h g j).toNat : Nat) (j + 1) (crs k h g j) = low k h g (j + 1) := by rw [← l1.1, st] <;> rfl
    rw [e2]
    exact l2.1.symm
theorem la_led {k : Nat} {s : Nat → Nat → Int} {h g : Nat} (hk : k < 5) (hh : h < 2 ^ k) (hg : g < 2 ^ k)
    (hs : ∀ j, j < k → s j (nwo k (low k h g j).toNat (j + 1)).toNat = crs k h g j) : la k s h k = g := by
  have h1 := la_by hk hh hg hs k (Nat.le_refl _)
  rw [low_all k hk h hh g hg] at h1
  exact Int.ofNat.inj h1
/-- two ways by one switch, apart ahead of it and behind it, are crossed alike -/
theorem crs_same {k h g h' g' j : Nat} (hk : k < 5) (hh : h < 2 ^ k) (hg : g < 2 ^ k) (hh' : h' < 2 ^ k) (hg' : g' < 2 ^ k) (hj : j < k)
    (n0 : low k h g j ≠ low k h' g' j) (n1 : low k h g (j + 1) ≠ low k h' g' (j + 1))
    (e : nwo k (low k h g j).toNat (j + 1) = nwo k (low k h' g' j).toNat (j + 1)) : crs k h g j = crs k h' g' j := by
  have l1 := low_nat hk hh hg (show j ≤ k by omega)
  have l2 := low_nat hk hh' hg' (show j ≤ k by omega)
  have s1 := low_step k hk h hh g hg j hj
  have s2 := low_step k hk h' hh' g' hg' j hj
  change _ = stp k (low k h g j) (j + 1) (crs k h g j) at s1
  change _ = stp k (low k h' g' j) (j + 1) (crs k h' g' j) at s2
  rw [l1.1] at s1
  rw [l2.1] at s2
  rcases nwo_two k hk _ l1.2 _ l2.2 j hj with c | c | c
  · exact absurd e c
  · exact absurd (by rw [l1.1, l2.1, c]) n0
  · have t1 := stp_two k hk _ l1.2 j hj
    rw [← c, Int.toNat_natCast] at t1
    rcases crs_bit hk hh hg hj with a | a <;> rcases crs_bit hk hh' hg' hj with b | b
    · rw [a, b]
    · rw [a, stp_zero k hk _ l1.2 j hj] at s1
      rw [b, t1] at s2
      exact absurd (s1.trans s2.symm) n1
    · rw [a, ← c] at s1
      rw [b, stp_zero k hk _ l2.2 j hj] at s2
      exact absurd (s1.trans s2.symm) n1
    · rw [a, b]
theorem pig : ∀ (N : Nat) (f : Nat → Nat), (∀ i, i < N → f i < N) → (∀ i j, i < N → j < N → f i = f j → i = j) → ∀ m, m < N → ∃ i, i < N ∧ f i = m
  | 0, _, _, _, m, hm => absurd hm (Nat.not_lt_zero _)
  | N + 1, f, hf, inj, m, hm => by
    have a1 := hf N (Nat.lt_succ_self _)
    have g1 : ∀ i, i < N → (if f i = N then f N else f i) < N := by
      intro i hi
      have h1 := hf i (by omega)
      split
      · rename_i c
        have : f N ≠ N := fun z => by have := inj i N (by omega) (by omega) (by rw [c, z]); omega
        omega
      · omega
    have g2 : ∀ i j, i < N → j < N → (if f i = N then f N else f i) = (if f j = N then f N else f j) → i = j := by
      intro i j hi hj e
      by_cases c : f i = N <;> by_cases d : f j = N
      · exact inj i j (by omega) (by omega) (by rw [c, d])
      · rw [if_pos c, if_neg d] at e
        have := inj N j (by omega) (by omega) e
        omega
      · rw [if_neg c, if_pos d] at e
        have := inj i N (by omega) (by omega) e
        omega
      · rw [if_neg c, if_neg d] at e
        exact inj i j (by omega) (by omega) e
    by_cases c : m = f N
    · exact ⟨N, Nat.lt_succ_self _, c.symm⟩
    by_cases d : m = N
    · have lt : f N < N := by omega
      obtain ⟨i, hi, e⟩ := pig N _ g1 g2 (f N) lt
      by_cases z : f i = N
      · exact ⟨i, by omega, by omega⟩
      · rw [if_neg z] at e
        have := inj i N (by omega) (by omega) e
        omega
    · obtain ⟨i, hi, e⟩ := pig N _ g1 g2 m (by omega)
      by_cases z : f i = N
      · rw [if_pos z] at e
        exact absurd e.symm c
      · rw [if_neg z] at e
        exact ⟨i, by omega, e⟩
/-- where the ways are apart at a level, each switch behind it has a way -/
theorem sw_onto {k j n : Nat} {g : Nat → Nat} (hk : k < 5) (hj : j < k) (hg : ∀ h, h < 2 ^ k → g h < 2 ^ k)
    (ap : ∀ h h', h < 2 ^ k → h' < 2 ^ k → low k h (g h) j = low k h' (g h') j → h = h') (hn : n < 2 ^ (k - 1)) : ∃ h, h < 2 ^ k ∧ nwo k (low k h (g h) j).toNat (j + 1) = (n : Nat) := by
  obtain ⟨l, hl, e⟩ := nwo_onto k hk j hj n hn
  obtain ⟨h, hh, e2⟩ := pig (2 ^ k) (fun h => (low k h (g h) j).toNat) (fun i hi => (low_nat hk hi (hg i hi) (by omega)).2) (fun a b ha hb e => by
    have l1 := low_nat hk ha (hg a ha) (show j ≤ k by omega)
    have l2 := low_nat hk hb (hg b hb) (show j ≤ k by omega)
    refine ap a b ha hb ?_
    have e' : (low k a (g a) j).toNat = (low k b (g b) j).toNat := e
    rw [l1.1, l2.1, e']) l hl
  exact ⟨h, hh, by rw [show (low k h (g h) j).toNat = l from e2]; exact e⟩
/-! settings (k35): what settings_by writes; wants st14d, st15d -/
/-- ways apart -/
def Ap (k : Nat) (g : Nat → Nat) : Prop := ∀ lv, lv ≤ k → ∀ h h', h < 2 ^ k → h' < 2 ^ k → low k h (g h) lv = low k h' (g h') lv → h = h'
def prs (k : Nat) (g : Nat → Nat) : List (Nat × Nat) := (List.range (2 ^ k)).map fun h => (h, g h)
def Gd (k : Nat) (g : Nat → Nat) : Prop := ∀ h, h < 2 ^ k → g h < 2 ^ k
theorem nodup_of : ∀ {L : List Int}, (∀ x, ¬ Rp L x) → L.Nodup
  | [], _ => List.nodup_nil
  | a :: L, h => by
    rw [List.nodup_cons]
    refine ⟨fun m => h a ?_, nodup_of fun x c => h x ?_⟩
    · unfold Rp
      rw [List.count_cons_self]
      have := List.count_pos_iff.mpr m
      omega
    · unfold Rp at c ⊢
      rw [List.count_cons]
      omega
theorem nodup_inj {f : Nat → Int} {N : Nat} (nd : ((List.range N).map f).Nodup) : ∀ h h', h < N → h' < N → f h = f h' → h = h' := by
  rw [List.nodup_iff_pairwise_ne, List.pairwise_iff_getElem] at nd
  have lt : ∀ h h', h < h' → h' < N → f h ≠ f h' := fun h h' a b => by
    have := nd h h' (by rw [List.length_map, List.length_range]; omega) (by rw [List.length_map, List.length_range]; omega) a
    rwa [List.getElem_map, List.getElem_map, List.getElem_range, List.getElem_range] at this
  intro h h' a b e
  rcases Nat.lt_trichotomy h h' with c | c | c
  · exact absurd e (lt _ _ c b)
  · exact c
  · exact absurd e.symm (lt _ _ c a)
theorem inj_nodup {f : Nat → Int} {N : Nat} (i : ∀ h h', h < N → h' < N → f h = f h' → h = h') : ((List.range N).map f).Nodup := by
  rw [List.nodup_iff_pairwise_ne, List.pairwise_iff_getElem]
  intro a b ha hb c e
  rw [List.length_map, List.length_range] at ha hb
  rw [List.getElem_map, List.getElem_map, List.getElem_range, List.getElem_range] at e
  have := i a b ha hb e
  omega
theorem lns_prs {k lv : Nat} {g : Nat → Nat} (hk : k < 5) (hg : Gd k g) (hl : lv ≤ k) : lns k (prs k g) lv = (List.range (2 ^ k)).map fun h => low k h (g h) lv := by
  unfold lns prs
  rw [List.map_map]
  refine List.map_congr_left fun h hh => ?_
  have hh := List.mem_range.mp hh
  exact (low_is k hk h hh (g h) (hg h hh) lv (by omega)).symm
theorem ap_of {k : Nat} {g : Nat → Nat} (hk : k < 5) (hg : Gd k g) (no : Fst (lns k (prs k g)) k none) : Ap k g := by
  intro lv hl
  have nd := nodup_of (no lv hl)
  rw [lns_prs hk hg hl] at nd
  exact nodup_inj nd
theorem no_of {k : Nat} {g : Nat → Nat} (hk : k < 5) (hg : Gd k g) (ap : Ap k g) : Fst (lns k (prs k g)) k none := by
  intro lv hl x c
  have nd := inj_nodup (ap lv hl)
  rw [← lns_prs hk hg hl] at nd
  have := nodup_count x nd
  unfold Rp at c
  omega
theorem la_ap {k : Nat} {s : Nat → Nat → Int} (hk : k < 5) (hs : Bt s) : Ap k (fun h => la k s h k) := by
  intro lv hl h h' hh hh' e
  have e : low k h (la k s h k) lv = low k h' (la k s h' k) lv := e
  have e1 := la_low hk hs hh (g := la k s h k) rfl lv hl
  have e2 := la_low hk hs hh' (g := la k s h' k) rfl lv hl
  exact la_inj hk hs hh hh' lv hl (by omega)
theorem ap_cong {k : Nat} {g g' : Nat → Nat} (e : ∀ h, h < 2 ^ k → g h = g' h) (ap : Ap k g) : Ap k g' := fun lv hl h h' hh hh' c => ap lv hl h h' hh hh' (by rw [e h hh, e h' hh']; exact c)
def row (k : Nat) (s : Nat → Nat → Int) (j : Nat) : List Int := (List.range (2 ^ (k - 1))).map (s j)
/-- settings that lead alike are alike -/
theorem se_uniq {k : Nat} {s s' : Nat → Nat → Int} {g : Nat → Nat} (hk : k < 5) (hs : Bt s) (hs' : Bt s') (hg : ∀ h, h < 2 ^ k → la k s h k = g h) (hg' : ∀ h, h < 2 ^ k → la k s' h k = g h) : ∀ j, j < k → row k s j = row k s' j := by
  intro j hj
  unfold row
  refine List.map_congr_left fun n hn => ?_
  have hn := List.mem_range.mp hn
  have gd : Gd k g := fun h hh => by rw [← hg h hh]; exact la_in hk hs hh k (Nat.le_refl _)
  have ap : Ap k g := ap_cong hg (la_ap hk hs)
  obtain ⟨h, hh, e⟩ := sw_onto (g := g) hk hj gd (fun h h' a b e => ap j (by omega) h h' a b e) hn
  have a1 := la_xor hk hs hh (hg h hh) hj
  have a2 := la_xor hk hs' hh (hg' h hh) hj
  have l1 := la_low hk hs hh (hg h hh) j (by omega)
  have l2 := la_low hk hs' hh (hg' h hh) j (by omega)
  have e1 : la k s h j = (low k h (g h) j).toNat := by omega
  have e2 : la k s' h j = (low k h (g h) j).toNat := by omega
  rw [e1, e, Int.toNat_natCast] at a1
  rw [e2, e, Int.toNat_natCast] at a2
  rw [a1, a2]
def wr (c : Nat → Nat → Int) (j0 n0 : Nat) (v : Int) : Nat → Nat → Int := fun j n => if j = j0 ∧ n = n0 then v else c j n
theorem wr_bit {c : Nat → Nat → Int} {j n : Nat} {v : Int} (h : Bt c) (hv : v = 0 ∨ v = 1) : Bt (wr c j n v) := fun i m => by
  unfold wr
  split
  · exact hv
  · exact h i m
theorem row_wr {k : Nat} {c : Nat → Nat → Int} {j n : Nat} {v : Int} (hn : n < 2 ^ (k - 1)) : row k (wr c j n v) j = (row k c j).set n v := by
  refine List.ext_getElem? fun i => ?_
  unfold row
  rw [List.getElem?_set, List.length_map, List.length_range, List.getElem?_map, List.getElem?_map]
  by_cases e : n = i
  · subst e
    rw [if_pos rfl, if_pos hn, List.getElem?_range hn]
    show some (wr c j n v j n) = _
    unfold wr
    rw [if_pos ⟨rfl, rfl⟩]
  · rw [if_neg e]
    by_cases l : i < 2 ^ (k - 1)
    · rw [List.getElem?_range l]
      show some (wr c j n v j i) = some (c j i)
      unfold wr
      rw [if_neg (fun z => e z.2.symm)]
    · rw [List.getElem?_eq_none (by rw [List.length_range]; omega)] <;> rfl
theorem row_wr_ne {k : Nat} {c : Nat → Nat → Int} {j i n : Nat} {v : Int} (h : i ≠ j) : row k (wr c j n v) i = row k c i := by
  unfold row
  refine List.map_congr_left fun m _ => ?_
  unfold wr
  rw [if_neg (fun z => h z.1)]
def Wd (k : Nat) (g : Nat → Nat) (h j : Nat) (c : Nat → Nat → Int) : Prop := ∀ h' i, (h' < h ∧ i < k ∨ h' = h ∧ i < j) → c i (nwo k (low k h' (g h') i).toNat (i + 1)).toNat = crs k h' (g h') i
theorem Wd.step {k : Nat} {g : Nat → Nat} {h j : Nat} {c : Nat → Nat → Int} (hk : k < 5) (hg : Gd k g) (ap : Ap k g) (hh : h < 2 ^ k) (hj : j < k) (w : Wd k g h j c) : Wd k g h (j + 1) (wr c j (nwo k (low k h (g h) j).toNat (j + 1)).toNat (crs k h (g h) j)) := by
  intro h' i hi
  unfold wr
  split
  · rename_i e
    obtain ⟨rfl, e⟩ := e
    by_cases d : h' = h
    · rw [d]
    · have hh' : h' < 2 ^ k := by omega
      have l1 := low_nat hk hh (hg h hh) (show i ≤ k by omega)
      have l2 := low_nat hk hh' (hg h' hh') (show i ≤ k by omega)
      have n1 := nwo_in k hk _ l1.2 i hj
      have n2 := nwo_in k hk _ l2.2 i hj
      exact crs_same hk hh (hg h hh) hh' (hg h' hh') hj (fun z => d (ap i (by omega) h' h hh' hh z.symm)) (fun z => d (ap (i + 1) (by omega) h' h hh' hh z.symm)) (by omega)
  · rename_i e
    refine w h' i ?_
    rcases hi with a | ⟨rfl, b⟩
    · exact .inl a
    · refine .inr ⟨rfl, ?_⟩
      have : i ≠ j := fun z => e (by subst z; exact ⟨rfl, rfl⟩)
      omega
theorem Wd.next {k : Nat} {g : Nat → Nat} {h : Nat} {c : Nat → Nat → Int} (w : Wd k g h k c) : Wd k g (h + 1) 0 c := fun h' i hi => w h' i (by omega)
theorem Wd.zero {k : Nat} {g : Nat → Nat} {c : Nat → Nat → Int} : Wd k g 0 0 c := fun h' i hi => by omega
theorem Wd.fin {k : Nat} {g : Nat → Nat} {c : Nat → Nat → Int} (hk : k < 5) (hg : Gd k g) (w : Wd k g (2 ^ k) 0 c) : ∀ h, h < 2 ^ k → la k c h k = g h := fun h hh => la_led hk hh (hg h hh) fun j hj => w h j (.inl ⟨hh, hj⟩)
end Toy
/-! ### tuples: t + u and t[a:b] of any kind -/
namespace Toy
open PySem PySem.Spec PyProof.Rows L2
def rCatU : R2 := fun x y H Q => ∃ a b xs ys, x = .ref a ∧ y = .ref b ∧ H a = some (.tup xs) ∧ H b = some (.tup ys) ∧ xs.length + ys.length ≤ sizeLine ∧ ∀ p H', Same H H' → H' p = some (.tup (xs ++ ys)) → Q (.ref p) H'
theorem op_catU {X : Cx} : OpR X (binaryOp .Add) rCatU := by
  intro pins s σ H x y v u Q I rx ry h
  obtain ⟨a, b, xs, ys, rfl, rfl, ha, hb, hz, q⟩ := h
  refine op_catA pins s σ H _ _ v u Q I rx ry ⟨a, b, xs, ys, rfl, rfl, SqT.of ha, SqT.of hb, hz, fun e => ?_, fun _ e => ?_, fun _ _ p hp => q p _ (same_new hp _) upd_same⟩
  · subst e
    exact q b H (fun _ _ z => z) (by rw [hb, List.nil_append])
  · subst e
    exact q a H (fun _ _ z => z) (by rw [ha, List.append_nil])
def rSlU : V → Option Int → Option Int → Hp → VK → Prop := fun x lo hi H Q => ∃ a xs, x = .ref a ∧ H a = some (.tup xs) ∧ ∀ p H', Same H H' → H' p = some (.tup (cutV xs lo hi)) → Q (.ref p) H'
theorem sl_tupU {X : Cx} : SlR X rSlU := by
  intro pins s σ H x v vl vu lo hi sl Q I rx hs pl pu h
  obtain ⟨a, xs, rfl, ha, q⟩ := h
  refine sl_tupA pins s σ H _ v vl vu lo hi sl Q I rx hs pl pu ⟨a, xs, rfl, SqT.of ha, fun e => ?_, fun _ p hp => q p _ (same_new hp _) upd_same⟩
  refine q a H (fun _ _ z => z) ?_
  rw [ha]
  have : cutV xs lo hi = xs := by
    unfold cutV
    rw [e.1, e.2, List.drop_zero, Nat.sub_zero, List.take_length]
  rw [this]
/-! ### things of any kind: numbers, truths, None, texts, tuples, lists, dicts with ints as keys -/
mutual
def wt : PyData → Nat
  | .none => 5
  | .bool _ => 5
  | .int _ => 1921
  | .str x => (reprText x).length + 1
  | .list xs => wts xs + 4
  | .tuple xs => wts xs + 4
  | .dict kvs => wtk kvs + 4
def wts : List PyData → Nat
  | [] => 0
  | x :: xs => wt x + 4 + wts xs
def wtk : List (PyData × PyData) → Nat
  | [] => 0
  | (k, v) :: r => wt k + wt v + 8 + wtk r
end
theorem dicT_len (ts : List Str) : (dictText ts).length ≤ piled ts + 4 := by
  unfold dictText
  rw [strLen_append, strLen_append]
  have e1 : ((("{" : String) : Str)).length = 1 := rfl
  have e3 : ((("}" : String) : Str)).length = 1 := rfl
  by_cases h : ts = []
  · subst h; decide +kernel
  · have := join_length_add ts h; omega
mutual
theorem shown_wt : ∀ d : PyData, d.showable = true → d.shown.length ≤ wt d
  | .none, _ => by show (("None" : String) : Str).length ≤ 5; decide +kernel
  | .bool b, _ => by cases b <;> (show _ ≤ 5; decide +kernel)
  | .int i, h => PyProof.Rows.int_text_len_1921 (of_decide_eq_true (by simpa [PyData.showable] using h))
  | .str x, _ => Nat.le_succ _
  | .list ds, h => by
    have h1 := showns_wt ds (by simpa [PyData.showable] using h)
    have h2 := lstT_len (PyData.shownAll ds)
    show (listText (PyData.shownAll ds)).length ≤ wts ds + 4
    omega
  | .tuple ds, h => by
    have h1 := showns_wt ds (by simpa [PyData.showable] using h)
    have h2 := tupT_len (PyData.shownAll ds)
    show (tupleText (PyData.shownAll ds)).length ≤ wts ds + 4
    omega
  | .dict kvs, h => by
    have h1 := shownk_wt kvs (by simpa [PyData.showable] using h)
    have h2 := dicT_len (PyData.shownKv kvs)
    show (dictText (PyData.shownKv kvs)).length ≤ wtk kvs + 4
    omega
theorem showns_wt : ∀ ds : List PyData, PyData.showableAll ds = true → piled (PyData.shownAll ds) ≤ wts ds
  | [], _ => Nat.le_refl _
  | d :: ds, h => by
    have h1 := shown_wt d (by simp [PyData.showableAll] at h; exact h.1)
    have h2 := showns_wt ds (by simp [PyData.showableAll] at h; exact h.2)
    show piled (d.shown :: PyData.shownAll ds) ≤ _
    rw [piled_cons]
    show _ ≤ wt d + 4 + wts ds
    omega
theorem shownk_wt : ∀ kvs : List (PyData × PyData), PyData.showableKv kvs = true → piled (PyData.shownKv kvs) ≤ wtk kvs
  | [], _ => Nat.le_refl _
  | (k, v) :: r, h => by
    have h0 : (k.showable = true ∧ v.showable = true) ∧ PyData.showableKv r = true := by simpa [PyData.showableKv] using h
    have h1 := shown_wt k h0.1.1
    have h2 := shown_wt v h0.1.2
    have h3 := shownk_wt r h0.2
    show piled ((k.shown ++ ": " ++ v.shown) :: PyData.shownKv r) ≤ _
    rw [piled_cons, strLen_append, strLen_append]
    have e : (((": " : String) : Str)).length = 2 := rfl
    show _ ≤ wt k + wt v + 8 + wtk r
    omega
end
theorem shown_wz {d : PyData} (h : d.showable = true) (c : wt d ≤ 10000000) : d.shown.length ≤ sizeLine := Nat.le_trans (shown_wt d h) (Nat.le_trans c (by decide))
/-- a thing: d stands at v; the list p is no part of it -/
inductive Th (K : PySem.W.Frag) (p : Addr) (H : Hp) : V → PyData → Prop
  | non : Th K p H .non .none
  | bl (b : Bool) : Th K p H (.bl b) (.bool b)
  | int (i : Int) : Th K p H (.int i) (.int i)
  | str (x : Str) : Th K p H (.str x) (.str x)
  | tup {a : Addr} {tr : List (V × PyData)} : H a = some (.tup (tr.map fun t => t.1)) → (∀ t ∈ tr, Th K p H t.1 t.2) → Th K p H (.ref a) (.tuple (tr.map fun t => t.2))
  | lst {a : Addr} {tr : List (V × PyData)} : a ≠ p → a ≠ sysModules → H a = some (.lst (tr.map fun t => t.1)) → (∀ t ∈ tr, Th K p H t.1 t.2) → Th K p H (.ref a) (.list (tr.map fun t => t.2))
  | dct {a : Addr} {tr : List (Int × V × PyData)} : H a = some (.dK (tr.map fun t => (Sum.inl t.1, t.2.1))) → (∀ t ∈ tr, Th K p H t.2.1 t.2.2) → Th K p H (.ref a) (.dict (tr.map fun t => (.int t.1, t.2.2)))
theorem Th.same {K : PySem.W.Frag} {p : Addr} {H H' : Hp} {v : V} {d : PyData} (h : Th K p H v d) (e : Same H H') : Th K p H' v d := by
  induction h with
  | non => exact .non
  | bl b => exact .bl b
  | int i => exact .int i
  | str x => exact .str x
  | tup h1 _ ih => exact .tup (e _ _ h1) ih
  | lst n1 n2 h1 _ ih => exact .lst n1 n2 (e _ _ h1) ih
  | dct h1 _ ih => exact .dct (e _ _ h1) ih
theorem Th.but {K : PySem.W.Frag} {p : Addr} {H H' : Hp} {v : V} {d : PyData} {ys : List V} (h : Th K p H v d) (e : But p H H') (hp : H p = some (.lst ys)) : Th K p H' v d := by
  induction h with
  | non => exact .non
  | bl b => exact .bl b
  | int i => exact .int i
  | str x => exact .str x
  | tup h1 _ ih => exact .tup (e _ _ (ne_of h1 hp (by intro z; cases z)) h1) ih
  | lst n1 n2 h1 _ ih => exact .lst n1 n2 (e _ _ n1 h1) ih
  | dct h1 _ ih => exact .dct (e _ _ (ne_of h1 hp (by intro z; cases z)) h1) ih
/-- the kind of a thing -/
def tyD : PyData → String
  | .none => "NoneType"
  | .bool _ => "bool"
  | .int _ => "int"
  | .str _ => "str"
  | .list _ => "list"
  | .tuple _ => "tuple"
  | .dict _ => "dict"
def isTu : PyData → Bool
  | .tuple _ => true
  | _ => false
def isIn : PyData → Bool
  | .int _ => true
  | .bool _ => true
  | _ => false
def isBl : PyData → Bool
  | .bool _ => true
  | _ => false
def isSt : PyData → Bool
  | .str _ => true
  | _ => false
/-- a whole number -/
def isWh : PyData → Bool
  | .int _ => true
  | _ => false
theorem isWh_eq (d : PyData) : isWh d = (isIn d && !isBl d) := by cases d <;> rfl
theorem Th.ty {K : PySem.W.Frag} {p : Addr} {H : Hp} {v : V} {d : PyData} (h : Th K p H v d) : TyX K H v (.type (tyD d)) := by
  cases h with
  | non => exact .base .non
  | bl b => exact .base (.bl b)
  | int i => exact .base (.int i)
  | str x => exact .base (.str x)
  | tup h1 _ => exact .base (.tup h1)
  | lst _ _ h1 _ => exact .base (.lst h1)
  | dct h1 _ => exact .base (.dK h1)
theorem kit_tu {K : PySem.W.Frag} : ∀ d : PyData, PySem.W.kitOne K (.type (tyD d)) (.type "tuple") = some (isTu d)
  | .none => (kit_ty (by decide +kernel) : PySem.W.kitOne K (.type "NoneType") (.type "tuple") = some false)
  | .bool _ => (kit_ty (by decide +kernel) : PySem.W.kitOne K (.type "bool") (.type "tuple") = some false)
  | .int _ => (kit_ty (by decide +kernel) : PySem.W.kitOne K (.type "int") (.type "tuple") = some false)
  | .str _ => (kit_ty (by decide +kernel) : PySem.W.kitOne K (.type "str") (.type "tuple") = some false)
  | .list _ => (kit_ty (by decide +kernel) : PySem.W.kitOne K (.type "list") (.type "tuple") = some false)
  | .tuple _ => (kit_ty (by decide +kernel) : PySem.W.kitOne K (.type "tuple") (.type "tuple") = some true)
  | .dict _ => (kit_ty (by decide +kernel) : PySem.W.kitOne K (.type "dict") (.type "tuple") = some false)
theorem kit_in {K : PySem.W.Frag} : ∀ d : PyData, PySem.W.kitOne K (.type (tyD d)) (.type "int") = some (isIn d)
  | .none => (kit_ty (by decide +kernel) : PySem.W.kitOne K (.type "NoneType") (.type "int") = some false)
  | .bool _ => (kit_ty (by decide +kernel) : PySem.W.kitOne K (.type "bool") (.type "int") = some true)
  | .int _ => (kit_ty (by decide +kernel) : PySem.W.kitOne K (.type "int") (.type "int") = some true)
  | .str _ => (kit_ty (by decide +kernel) : PySem.W.kitOne K (.type "str") (.type "int") = some false)
  | .list _ => (kit_ty (by decide +kernel) : PySem.W.kitOne K (.type "list") (.type "int") = some false)
  | .tuple _ => (kit_ty (by decide +kernel) : PySem.W.kitOne K (.type "tuple") (.type "int") = some false)
  | .dict _ => (kit_ty (by decide +kernel) : PySem.W.kitOne K (.type "dict") (.type "int") = some false)
theorem kit_bl {K : PySem.W.Frag} : ∀ d : PyData, PySem.W.kitOne K (.type (tyD d)) (.type "bool") = some (isBl d)
  | .none => (kit_ty (by decide +kernel) : PySem.W.kitOne K (.type "NoneType") (.type "bool") = some false)
  | .bool _ => (kit_ty (by decide +kernel) : PySem.W.kitOne K (.type "bool") (.type "bool") = some true)
  | .int _ => (kit_ty (by decide +kernel) : PySem.W.kitOne K (.type "int") (.type "bool") = some false)
  | .str _ => (kit_ty (by decide +kernel) : PySem.W.kitOne K (.type "str") (.type "bool") = some false)
  | .list _ => (kit_ty (by decide +kernel) : PySem.W.kitOne K (.type "list") (.type "bool") = some false)
  | .tuple _ => (kit_ty (by decide +kernel) : PySem.W.kitOne K (.type "tuple") (.type "bool") = some false)
  | .dict _ => (kit_ty (by decide +kernel) : PySem.W.kitOne K (.type "dict") (.type "bool") = some false)
theorem kit_st {K : PySem.W.Frag} : ∀ d : PyData, PySem.W.kitOne K (.type (tyD d)) (.type "str") = some (isSt d)
  | .none => (kit_ty (by decide +kernel) : PySem.W.kitOne K (.type "NoneType") (.type "str") = some false)
  | .bool _ => (kit_ty (by decide +kernel) : PySem.W.kitOne K (.type "bool") (.type "str") = some false)
  | .int _ => (kit_ty (by decide +kernel) : PySem.W.kitOne K (.type "int") (.type "str") = some false)
  | .str _ => (kit_ty (by decide +kernel) : PySem.W.kitOne K (.type "str") (.type "str") = some true)
  | .list _ => (kit_ty (by decide +kernel) : PySem.W.kitOne K (.type "list") (.type "str") = some false)
  | .tuple _ => (kit_ty (by decide +kernel) : PySem.W.kitOne K (.type "tuple") (.type "str") = some false)
  | .dict _ => (kit_ty (by decide +kernel) : PySem.W.kitOne K (.type "dict") (.type "str") = some false)
theorem Th.tup_inv {K : PySem.W.Frag} {p : Addr} {H : Hp} {v : V} {ds : List PyData} (h : Th K p H v (.tuple ds)) : ∃ (a : Addr) (tr : List (V × PyData)), v = .ref a ∧ ds = (tr.map fun t => t.2) ∧ H a = some (.tup (tr.map fun t => t.1)) ∧ ∀ t ∈ tr, Th K p H t.1 t.2 := by
  cases h with
  | @tup a tr h1 h2 => exact ⟨a, tr, rfl, rfl, h1, h2⟩
theorem Th.int_inv {K : PySem.W.Frag} {p : Addr} {H : Hp} {v : V} {i : Int} (h : Th K p H v (.int i)) : v = .int i := by cases h; rfl
theorem isTu_inv {d : PyData} (h : isTu d = true) : ∃ ds, d = .tuple ds := by cases d <;> first | exact ⟨_, rfl⟩ | cases h
theorem isWh_inv {d : PyData} (h : isWh d = true) : ∃ i, d = .int i := by cases d <;> first | exact ⟨_, rfl⟩ | cases h
/-! a thing, shown -/
theorem reads_all {h : Heap} : ∀ {tr : List (V × PyData)} {us : List Value}, Vals (tr.map fun t => t.1) us → (∀ t ∈ tr, ∀ u, RelV t.1 u → ∃ as, Reads h u t.2 as ∧ sysModules ∉ as) → ∃ as, ReadsAll h us (tr.map fun t => t.2) as ∧ sysModules ∉ as
  | [], _, .nil, _ => ⟨_, .nil, List.not_mem_nil⟩
  | t :: tr, _, .cons r rs, ih => by
    obtain ⟨as, h1, h2⟩ := ih t List.mem_cons_self _ r
    obtain ⟨bs, h3, h4⟩ := reads_all rs fun x hx => ih x (List.mem_cons_of_mem _ hx)
    exact ⟨_, .cons h1 h3, fun z => (List.mem_append.mp z).elim h2 h4⟩
theorem reads_dct {P : Program} {w : World} {h : Heap} : ∀ {tr : List (Int × V × PyData)} {vs : List (Key × Value)} {es : List DictEntry}, KV (tr.map fun t => ((Sum.inl t.1 : Key), t.2.1)) vs → Pairs (mixKind P w) es vs → (∀ t ∈ tr, ∀ u, RelV t.2.1 u → ∃ as, Reads h u t.2.2 as ∧ sysModules ∉ as) →
    ∃ as bs, ReadsAll h (es.map fun e => e.key) (tr.map fun t => PyData.int t.1) as ∧ ReadsAll h (es.map fun e => e.val) (tr.map fun t => t.2.2) bs ∧ sysModules ∉ as ∧ sysModules ∉ bs
  | [], _, _, .nil, .nil, _ => ⟨_, _, .nil, .nil, List.not_mem_nil, List.not_mem_nil⟩
  | t :: tr, _, _, .cons k ks, .cons e1 e2 es, ih => by
    obtain ⟨as, h1, h2⟩ := ih t List.mem_cons_self _ k.2
    obtain ⟨cs, bs, h3, h4, h5, h6⟩ := reads_dct ks es fun x hx => ih x (List.mem_cons_of_mem _ hx)
    have e1' := e1
    rw [← k.1] at e1'
    have e3 : keyIs (Sum.inl t.1) _ = true := e1'
    rcases keyIs_shape e3 with ⟨i, tk, ei, ek⟩ | ⟨x, tk, ei, _⟩
    · cases ei
      rw [← e2] at h1
      exact ⟨[] ++ cs, as ++ bs, .cons (by show Reads h _ (.int t.1) []; dsimp only; rw [ek]; exact Reads.int t.1 tk) h3, .cons h1 h4, h5, fun z => (List.mem_append.mp z).elim h2 h6⟩
    · cases ei
theorem Th.reads {X : Cx} {pins : List (Addr × Obj)} {σ : L2.St} {p : Addr} {H : Hp} {s : Shared} (I : Inv X pins σ H s) {v : V} {d : PyData} (h : Th X.K p H v d) : ∀ u, RelV v u → ∃ as, Reads s.heap u d as ∧ sysModules ∉ as := by
  induction h with
  | non => intro u r; cases r; exact ⟨_, .none, List.not_mem_nil⟩
  | bl b => intro u r; cases r; exact ⟨_, .bool b, List.not_mem_nil⟩
  | int i => intro u r; obtain ⟨t, rfl⟩ := r; exact ⟨_, .int i t, List.not_mem_nil⟩
  | str x => intro u r; obtain ⟨t, rfl⟩ := r; exact ⟨_, .str x t, List.not_mem_nil⟩
  | @tup a tr h1 _ ih =>
    intro u r
    cases r
    obtain ⟨its, rv, ⟨o, ho, hc, n, hd⟩, _⟩ := I.tuple (SqT.of h1)
    obtain ⟨as, h2, h3⟩ := reads_all rv ih
    exact ⟨_, .tuple ho hc hd h2, h3⟩
  | @lst a tr n1 n2 h1 _ ih =>
    intro u r
    cases r
    obtain ⟨its, rv, ⟨o, n, ho, hc, _, hd⟩, _⟩ := I.list (SqL.of h1)
    obtain ⟨as, h2, h3⟩ := reads_all rv ih
    exact ⟨_, .list ho hc hd h2, fun z => (List.mem_cons.mp z).elim (fun q => n2 q.symm) h3⟩
  | @dct a tr h1 _ ih =>
    intro u r
    cases r
    obtain ⟨_, hs, vs, kv, o, es, ep, ho, hx, hd, _, pr, _⟩ := dk_of I.hok h1
    obtain ⟨as, bs, h2, h3, h4, h5⟩ := reads_dct kv pr ih
    refine ⟨a :: as ++ bs, .dict (kvs := tr.map fun t => (PyData.int t.1, t.2.2)) ho hx.1 hd (by rw [List.map_map]; exact h2) (by rw [List.map_map]; exact h3), fun z => ?_⟩
    rcases List.mem_append.mp z with z | z
    · rcases List.mem_cons.mp z with z | z
      · rw [← z] at hs; cases hs
      · exact h4 z
    · exact h5 z
def rReprO (K : PySem.W.Frag) : List V → Hp → VK → Prop := fun xs H Q => ∃ (x : V) (d : PyData) (p : Addr), xs = [x] ∧ Th K p H x d ∧ d.showable = true ∧ d.depth ≤ 60 ∧ d.shown.length ≤ sizeLine ∧ Q (.str d.shown) H
theorem reprO {X : Cx} {k : Nat} {K : PySem.W.Frag} (hr : RoomG k X.A) (eK : X.K = K := by rfl) : CallR X (.builtin "repr") (rReprO K) := by
  cases eK
  intro pins s σ H xs us Q I r h
  obtain ⟨x, d, p, rfl, hd, hs, hdep, hz, q⟩ := h
  obtain ⟨u, rfl, rx⟩ := vals1 r
  obtain ⟨as, rd, na⟩ := Th.reads I hd u rx
  have hu := hr.units
  cases hd with
  | non => cases rx; exact PySem.P.repr_of_none ⟨.str _, H, I.tok _, ⟨_, rfl⟩, q⟩
  | bl b => cases rx; exact PySem.P.repr_of_bool ⟨.str _, H, I.tok _, ⟨_, rfl⟩, q⟩
  | int i => obtain ⟨t, rfl⟩ := rx; exact PySem.P.repr_of_int (of_decide_eq_true (by simpa [PyData.showable] using hs)) ⟨.str _, H, I.tok _, ⟨_, rfl⟩, q⟩
  | str z => obtain ⟨t, rfl⟩ := rx; exact PySem.P.repr_of_str ⟨.str _, H, I.tok _, ⟨_, rfl⟩, q⟩ hz
  | tup _ _ =>
    cases rx
    exact repr_of_reads' rd hs (fun _ => na) hr.idle (by omega) (fun _ _ z => z) (fun h' u tk hk => ⟨.str _, H, I.kept hk, ⟨_, rfl⟩, q⟩) hz
  | lst _ _ _ _ =>
    cases rx
    exact repr_of_reads' rd hs (fun _ => na) hr.idle (by omega) (fun _ _ z => z) (fun h' u tk hk => ⟨.str _, H, I.kept hk, ⟨_, rfl⟩, q⟩) hz
  | dct _ _ =>
    cases rx
    exact repr_of_reads' rd hs (fun _ => na) hr.idle (by omega) (fun _ _ z => z) (fun h' u tk hk => ⟨.str _, H, I.kept hk, ⟨_, rfl⟩, q⟩) hz
/-! lists that may be parts of things -/
def tLstS (t : TA) : TE := fun σ H Q => t σ H fun xs H1 => xs.length ≤ sizeLine ∧ ∀ p, H1 p = none → p ≠ sysModules → Q (.ref p) (upd H1 p (.lst xs))
theorem pe_lstS {X : Cx} {es : List Expr} {t : TA} {pos : Pos} (h : PA X es t) : PE X (.List es pos) (tLstS t) := by
  refine ⟨fun pins s σ H Q I hq => ?_⟩
  refine wpAny_List_spliced (thn (h.run pos pins s σ H _ I hq) fun us s1 ⟨xs, H1, I1, r, z, q⟩ => ⟨by rw [← r.length]; exact z, ?_⟩)
  have hn : H1 s1.heap.objs.size = none := I1.hok.fresh (Nat.le_refl _)
  exact ⟨.ref s1.heap.objs.size, upd H1 s1.heap.objs.size (.lst xs), I1.laid (t' := s1.toks) (fun b u e => Heap.get?_push_of_some _ e) (Nat.le_refl _) ⟨z, us, 0, r, Heap.get?_push_size _ rfl⟩, rfl, q _ hn (Nat.ne_of_gt I1.big)⟩
def rLstOfS (K : PySem.W.Frag) : List V → Hp → VK → Prop := fun xs H Q => ∃ p ys, xs = [.ref p] ∧ (SqL K H p ys ∨ SqT K H p ys) ∧ ∀ l, H l = none → l ≠ sysModules → Q (.ref l) (upd H l (.lst ys))
theorem lstOfS {X : Cx} {K : PySem.W.Frag} (eK : X.K = K := by rfl) : CallR X (.type "list") (rLstOfS K) := by
  cases eK
  intro pins s σ H xs us Q I r h
  obtain ⟨p, ys, rfl, hq, q⟩ := h
  obtain ⟨u, rfl, rx⟩ := vals1 r
  cases rx
  have fin : ∀ (its : List Value), Vals ys its → ys.length ≤ sizeLine → ∀ (h' : Heap) (c' : Nat), (∀ b o', s.heap.get? b = some o' → h'.get? b = some o') →
      h'.get? s.heap.objs.size = some { cls := .type "list", dict := none, data := .seq its.toArray c', slots := #[] } → EP X pins σ Q (.ref s.heap.objs.size) { s with heap := h' } := fun its r' hz h' c' kp e =>
    ⟨.ref s.heap.objs.size, _, I.laid (t' := s.toks) kp (Nat.le_refl _) (show ObjOk X.prog X.w _ h' _ (.lst ys) from ⟨hz, its, c', r', e⟩), rfl, q _ (I.hok.fresh (Nat.le_refl _)) (Nat.ne_of_gt I.big)⟩
  rcases hq with hq | hq
  · obtain ⟨its, r', pl, hz⟩ := I.list hq
    have hlen := r'.length
    obtain ⟨o, ho, hc, n, hd⟩ := pl.isList
    exact call_list_seq p (.inl rfl) ho hc hd (fun h' c' kp e => fin its r' hz h' c' kp e) (by simp only [List.size_toArray] <;> omega)
  · obtain ⟨its, r', pl, hz⟩ := I.tuple hq
    have hlen := r'.length
    obtain ⟨o, ho, hc, n, hd⟩ := pl
    exact call_list_seq p (.inr rfl) ho hc hd (fun h' c' kp e => fin its r' hz h' c' kp e) (by simp only [List.size_toArray] <;> omega)
/-! ### lists of things beside [] (wants odd0) -/
def rNeNil (K : PySem.W.Frag) : R2 := fun x y H Q => ∃ a b ys, x = .ref a ∧ y = .ref b ∧ SqL K H a ys ∧ SqL K H b [] ∧ Q (.bl (!ys.isEmpty)) H
def rEqNil (K : PySem.W.Frag) : R2 := fun x y H Q => ∃ a b ys, x = .ref a ∧ y = .ref b ∧ SqL K H a ys ∧ SqL K H b [] ∧ Q (.bl ys.isEmpty) H
theorem op_neNil {X : Cx} {K : PySem.W.Frag} (hu : X.A.units + 64 < cLine) (eK : X.K = K := by rfl) : OpR X (compareOp .NotEq) (rNeNil K) := by
  cases eK
  intro pins s σ H x y v u Q I rx ry h
  obtain ⟨a, b, ys, rfl, rfl, ha, hb, q⟩ := h
  cases rx
  cases ry
  obtain ⟨its, rv, hl, _⟩ := I.list ha
  obtain ⟨its2, rv2, hl2, _⟩ := I.list hb
  cases rv2
  cases rv with
  | nil => exact SeqAt.RcNeAt.lists (e := fun _ => true) hl.isList hl2.isList rfl (by omega) (fun j h1 h2 => absurd h1 (Nat.not_lt_zero _)) _ _ _ _ ⟨.bl _, H, I, rfl, q⟩
  | cons r rs => exact SeqAt.RcNeAt.lists_lengths hl.isList hl2.isList (by simp) (by omega) _ _ _ _ ⟨.bl _, H, I, rfl, q⟩
theorem op_eqNil {X : Cx} {K : PySem.W.Frag} (hu : X.A.units + 64 < cLine) (eK : X.K = K := by rfl) : OpR X (compareOp .Eq) (rEqNil K) := by
  cases eK
  intro pins s σ H x y v u Q I rx ry h
  obtain ⟨a, b, ys, rfl, rfl, ha, hb, q⟩ := h
  cases rx
  cases ry
  obtain ⟨its, rv, hl, _⟩ := I.list ha
  obtain ⟨its2, rv2, hl2, _⟩ := I.list hb
  cases rv2
  cases rv with
  | nil => exact SeqAt.RcAt.lists (e := fun _ => true) hl.isList hl2.isList rfl (by omega) (fun j h1 h2 => absurd h1 (Nat.not_lt_zero _)) _ _ _ _ ⟨.bl _, H, I, rfl, q⟩
  | cons r rs => exact SeqAt.RcAt.lists_lengths hl.isList hl2.isList (by simp) (by omega) _ _ _ _ ⟨.bl _, H, I, rfl, q⟩
/-! sizes of things -/
mutual
/-- the greatest number in a thing, by its amount -/
def ib : PyData → Nat
  | .int i => i.natAbs
  | .list xs => ibs xs
  | .tuple xs => ibs xs
  | .dict kvs => ibk kvs
  | _ => 0
def ibs : List PyData → Nat
  | [] => 0
  | x :: xs => max (ib x) (ibs xs)
def ibk : List (PyData × PyData) → Nat
  | [] => 0
  | (k, v) :: r => max (max (ib k) (ib v)) (ibk r)
end
mutual
theorem ib_sh : ∀ d : PyData, ib d ≤ 10 ^ 100 → d.showable = true
  | .none, _ => rfl
  | .bool _, _ => rfl
  | .str _, _ => rfl
  | .int i, h => by
    have h : i.natAbs ≤ 10 ^ 100 := h
    have : i.natAbs.log2 < 1920 := log_lt (by decide) (Nat.lt_of_le_of_lt h (by decide))
    simpa [PyData.showable] using this
  | .list xs, h => ibs_sh xs h
  | .tuple xs, h => ibs_sh xs h
  | .dict kvs, h => ibk_sh kvs h
theorem ibs_sh : ∀ xs : List PyData, ibs xs ≤ 10 ^ 100 → PyData.showableAll xs = true
  | [], _ => rfl
  | x :: xs, h => by
    have h : max (ib x) (ibs xs) ≤ 10 ^ 100 := h
    have h1 := ib_sh x (Nat.le_trans (Nat.le_max_left _ _) h)
    have h2 := ibs_sh xs (Nat.le_trans (Nat.le_max_right _ _) h)
    simp only [PyData.showableAll, h1, h2, Bool.and_self]
theorem ibk_sh : ∀ kvs : List (PyData × PyData), ibk kvs ≤ 10 ^ 100 → PyData.showableKv kvs = true
  | [], _ => rfl
  | (k, v) :: r, h => by
    have h : max (max (ib k) (ib v)) (ibk r) ≤ 10 ^ 100 := h
    have h1 := ib_sh k (Nat.le_trans (Nat.le_trans (Nat.le_max_left _ _) (Nat.le_max_left _ _)) h)
    have h2 := ib_sh v (Nat.le_trans (Nat.le_trans (Nat.le_max_right _ _) (Nat.le_max_left _ _)) h)
    have h3 := ibk_sh r (Nat.le_trans (Nat.le_max_right _ _) h)
    simp only [PyData.showableKv, h1, h2, h3, Bool.and_self]
end
/-- depth, length when shown, greatest number -/
structure Wg (d : PyData) (n c b : Nat) : Prop where
  dep : d.depth ≤ n
  len : wt d ≤ c
  big : ib d ≤ b
theorem Wg.mono {d : PyData} {n c b n' c' b' : Nat} (w : Wg d n c b) (h1 : n ≤ n') (h2 : c ≤ c') (h3 : b ≤ b') : Wg d n' c' b' := ⟨Nat.le_trans w.dep h1, Nat.le_trans w.len h2, Nat.le_trans w.big h3⟩
structure Wgs (ds : List PyData) (n c b : Nat) : Prop where
  dep : PyData.depthAll ds ≤ n
  len : wts ds ≤ c
  big : ibs ds ≤ b
theorem Wgs.nil {n c b : Nat} : Wgs [] n c b := ⟨Nat.zero_le _, Nat.zero_le _, Nat.zero_le _⟩
theorem Wgs.cons {d : PyData} {ds : List PyData} {n c c' b : Nat} (h : Wg d n c b) (t : Wgs ds n c' b) : Wgs (d :: ds) n (c + 4 + c') b :=
  ⟨by show max d.depth (PyData.depthAll ds) ≤ n; have := h.dep; have := t.dep; omega, by show wt d + 4 + wts ds ≤ _; have := h.len; have := t.len; omega, by show max (ib d) (ibs ds) ≤ b; have := h.big; have := t.big; omega⟩
theorem wts_app : ∀ (xs ys : List PyData), wts (xs ++ ys) = wts xs + wts ys
  | [], ys => by show wts ys = 0 + wts ys; omega
  | x :: xs, ys => by show wt x + 4 + wts (xs ++ ys) = wt x + 4 + wts xs + wts ys; rw [wts_app xs ys]; omega
theorem ibs_app : ∀ (xs ys : List PyData), ibs (xs ++ ys) = max (ibs xs) (ibs ys)
  | [], ys => by show ibs ys = max 0 (ibs ys); omega
  | x :: xs, ys => by show max (ib x) (ibs (xs ++ ys)) = max (max (ib x) (ibs xs)) (ibs ys); rw [ibs_app xs ys]; omega
theorem dps_app : ∀ (xs ys : List PyData), PyData.depthAll (xs ++ ys) = max (PyData.depthAll xs) (PyData.depthAll ys)
  | [], ys => by show PyData.depthAll ys = max 0 _; omega
  | x :: xs, ys => by show max x.depth (PyData.depthAll (xs ++ ys)) = max (max x.depth (PyData.depthAll xs)) _; rw [dps_app xs ys]; omega
theorem Wgs.app {xs ys : List PyData} {n c c' b : Nat} (h : Wgs xs n c b) (t : Wgs ys n c' b) : Wgs (xs ++ ys) n (c + c') b :=
  ⟨by rw [dps_app]; have := h.dep; have := t.dep; omega, by rw [wts_app]; have := h.len; have := t.len; omega, by rw [ibs_app]; have := h.big; have := t.big; omega⟩
theorem Wgs.sub {xs ys : List PyData} {n c b : Nat} (h : Wgs (xs ++ ys) n c b) : Wgs xs n c b ∧ Wgs ys n c b := by
  have h1 := h.dep
  have h2 := h.len
  have h3 := h.big
  rw [dps_app] at h1
  rw [wts_app] at h2
  rw [ibs_app] at h3
  exact ⟨⟨by omega, by omega, by omega⟩, ⟨by omega, by omega, by omega⟩⟩
theorem Wgs.mono {ds : List PyData} {n c b n' c' b' : Nat} (w : Wgs ds n c b) (h1 : n ≤ n') (h2 : c ≤ c') (h3 : b ≤ b') : Wgs ds n' c' b' := ⟨Nat.le_trans w.dep h1, Nat.le_trans w.len h2, Nat.le_trans w.big h3⟩
theorem Wg.tup {ds : List PyData} {n c b : Nat} (h : Wgs ds n c b) : Wg (.tuple ds) (n + 1) (c + 4) b := ⟨by show PyData.depthAll ds + 1 ≤ n + 1; have := h.dep; omega, by show wts ds + 4 ≤ c + 4; have := h.len; omega, h.big⟩
theorem Wg.lst {ds : List PyData} {n c b : Nat} (h : Wgs ds n c b) : Wg (.list ds) (n + 1) (c + 4) b := ⟨by show PyData.depthAll ds + 1 ≤ n + 1; have := h.dep; omega, by show wts ds + 4 ≤ c + 4; have := h.len; omega, h.big⟩
theorem Wg.untup {ds : List PyData} {n c b : Nat} (h : Wg (.tuple ds) n c b) : Wgs ds (n - 1) (c - 4) b := ⟨by have : PyData.depthAll ds + 1 ≤ n := h.dep; omega, by have : wts ds + 4 ≤ c := h.len; omega, h.big⟩
theorem Wgs.mem {ds : List PyData} {n c b : Nat} (h : Wgs ds n c b) {d : PyData} (hd : d ∈ ds) : Wg d n c b := by
  obtain ⟨xs, ys, rfl⟩ := List.append_of_mem hd
  have h2 := (h.sub).2
  refine ⟨?_, ?_, ?_⟩
  · have : max d.depth (PyData.depthAll ys) ≤ n := h2.dep
    omega
  · have : wt d + 4 + wts ys ≤ c := h2.len
    omega
  · have : max (ib d) (ibs ys) ≤ b := h2.big
    omega
theorem Wg.shw {d : PyData} {n c b : Nat} (w : Wg d n c b) (hb : b ≤ 10 ^ 100 := by decide) : d.showable = true := ib_sh d (Nat.le_trans w.big hb)
theorem Wg.sz {d : PyData} {n c b : Nat} (w : Wg d n c b) (hb : b ≤ 10 ^ 100 := by decide) (hc : c ≤ 10000000 := by decide) : d.shown.length ≤ sizeLine := shown_wz (w.shw hb) (Nat.le_trans w.len hc)
theorem ofS_cps (s : String) : ∀ c ∈ (Str.ofString s).cps.toList, c < 16 ^ 8 := by
  intro c hc
  rw [Str.ofString_eq_toList] at hc
  have hc : c ∈ s.toList.map Char.toNat := by simpa using hc
  obtain ⟨ch, _, rfl⟩ := List.mem_map.mp hc
  exact Nat.lt_of_lt_of_le ch.val.toBitVec.isLt (by decide : 2 ^ 32 ≤ 16 ^ 8)
theorem strI_wt (i : Int) (h : i.natAbs ≤ 10 ^ 100) : wt (.str (toString i)) ≤ 20000 := by
  have h0 : i.natAbs.log2 < 1920 := log_lt (by decide) (Nat.lt_of_le_of_lt h (by decide))
  have h1 := PyProof.Rows.int_text_len_1921 h0
  have h2 := StrLaws.reprText_len (toString i : String) (ofS_cps _)
  show (reprText (toString i : String)).length + 1 ≤ 20000
  omega
/-! ### things whose lists are none of some (wants odd0) -/
inductive ThL (K : PySem.W.Frag) (S : Addr → Prop) (H : Hp) : V → PyData → Prop
  | non : ThL K S H .non .none
  | bl (b : Bool) : ThL K S H (.bl b) (.bool b)
  | int (i : Int) : ThL K S H (.int i) (.int i)
  | str (x : Str) : ThL K S H (.str x) (.str x)
  | tup {a : Addr} {tr : List (V × PyData)} : H a = some (.tup (tr.map fun t => t.1)) → (∀ t ∈ tr, ThL K S H t.1 t.2) → ThL K S H (.ref a) (.tuple (tr.map fun t => t.2))
  | lst {a : Addr} {tr : List (V × PyData)} : ¬ S a → a ≠ sysModules → H a = some (.lst (tr.map fun t => t.1)) → (∀ t ∈ tr, ThL K S H t.1 t.2) → ThL K S H (.ref a) (.list (tr.map fun t => t.2))
  | dct {a : Addr} {tr : List (Int × V × PyData)} : H a = some (.dK (tr.map fun t => (Sum.inl t.1, t.2.1))) → (∀ t ∈ tr, ThL K S H t.2.1 t.2.2) → ThL K S H (.ref a) (.dict (tr.map fun t => (.int t.1, t.2.2)))
theorem ThL.th {K : PySem.W.Frag} {S : Addr → Prop} {p : Addr} {H : Hp} {v : V} {d : PyData} (h : ThL K S H v d) (hp : S p) : Th K p H v d := by
  induction h with
  | non => exact .non
  | bl b => exact .bl b
  | int i => exact .int i
  | str x => exact .str x
  | tup h1 _ ih => exact .tup h1 ih
  | lst n1 n2 h1 _ ih => exact .lst (fun z => n1 (z ▸ hp)) n2 h1 ih
  | dct h1 _ ih => exact .dct h1 ih
theorem ThL.same {K : PySem.W.Frag} {S : Addr → Prop} {H H' : Hp} {v : V} {d : PyData} (h : ThL K S H v d) (e : Same H H') : ThL K S H' v d := by
  induction h with
  | non => exact .non
  | bl b => exact .bl b
  | int i => exact .int i
  | str x => exact .str x
  | tup h1 _ ih => exact .tup (e _ _ h1) ih
  | lst n1 n2 h1 _ ih => exact .lst n1 n2 (e _ _ h1) ih
  | dct h1 _ ih => exact .dct (e _ _ h1) ih
/-- tuples, dicts and other lists stay -/
theorem ThL.keep {K : PySem.W.Frag} {S : Addr → Prop} {H H' : Hp} {v : V} {d : PyData} (h : ThL K S H v d) (e1 : ∀ a xs, H a = some (.tup xs) → H' a = some (.tup xs)) (e2 : ∀ a xs, ¬ S a → H a = some (.lst xs) → H' a = some (.lst xs)) (e3 : ∀ a kvs, H a = some (.dK kvs) → H' a = some (.dK kvs)) : ThL K S H' v d := by
  induction h with
  | non => exact .non
  | bl b => exact .bl b
  | int i => exact .int i
  | str x => exact .str x
  | tup h1 _ ih => exact .tup (e1 _ _ h1) ih
  | lst n1 n2 h1 _ ih => exact .lst n1 n2 (e2 _ _ n1 h1) ih
  | dct h1 _ ih => exact .dct (e3 _ _ h1) ih
theorem ThL.but {K : PySem.W.Frag} {S : Addr → Prop} {p : Addr} {H H' : Hp} {v : V} {d : PyData} {ys : List V} (h : ThL K S H v d) (hs : S p) (e : But p H H') (hp : H p = some (.lst ys)) : ThL K S H' v d :=
  h.keep (fun a xs h1 => e _ _ (ne_of h1 hp (by intro z; cases z)) h1) (fun a xs n h1 => e _ _ (fun z => n (z ▸ hs)) h1) (fun a kvs h1 => e _ _ (ne_of h1 hp (by intro z; cases z)) h1)
theorem ThL.mono {K : PySem.W.Frag} {S T : Addr → Prop} {H : Hp} {v : V} {d : PyData} (h : ThL K S H v d) (e : ∀ a, T a → S a) : ThL K T H v d := by
  induction h with
  | non => exact .non
  | bl b => exact .bl b
  | int i => exact .int i
  | str x => exact .str x
  | tup h1 _ ih => exact .tup h1 ih
  | lst n1 n2 h1 _ ih => exact .lst (fun z => n1 (e _ z)) n2 h1 ih
  | dct h1 _ ih => exact .dct h1 ih
/-! ### numbers within bounds, as things (wants odd0) -/
def isR (d : PyData) (a b : Int) : Bool := match d with
  | .int i => decide (a ≤ i) && decide (i ≤ b)
  | _ => false
def isF (d : PyData) (a : Int) : Bool := match d with
  | .int i => decide (a ≤ i)
  | _ => false
theorem isR_no {d : PyData} {a b : Int} (h : isWh d = false) : isR d a b = false := by cases d <;> first | rfl | cases h
theorem isF_no {d : PyData} {a : Int} (h : isWh d = false) : isF d a = false := by cases d <;> first | rfl | cases h
theorem isR_inv {d : PyData} {a b : Int} (h : isR d a b = true) : ∃ i, d = .int i ∧ a ≤ i ∧ i ≤ b := by
  cases d with
  | int i =>
    have h : (decide (a ≤ i) && decide (i ≤ b)) = true := h
    rw [Bool.and_eq_true, decide_eq_true_iff, decide_eq_true_iff] at h
    exact ⟨i, rfl, h.1, h.2⟩
  | _ => cases h
theorem isR_mk {i a b : Int} (h1 : a ≤ i) (h2 : i ≤ b) : isR (.int i) a b = true := by
  show (decide (a ≤ i) && decide (i ≤ b)) = true
  rw [decide_eq_true h1, decide_eq_true h2] <;> rfl
theorem isF_inv {d : PyData} {a : Int} (h : isF d a = true) : ∃ i, d = .int i ∧ a ≤ i := by
  cases d with
  | int i => exact ⟨i, rfl, of_decide_eq_true h⟩
  | _ => cases h
/-- bounds, the upper one perhaps none -/
def oW : Option Int → V
  | none => .non
  | some i => .int i
def isB (d : PyData) (a : Int) : Option Int → Bool
  | none => isF d a
  | some b => isR d a b
theorem isB_no {d : PyData} {a : Int} {o : Option Int} (h : isWh d = false) : isB d a o = false := by
  cases o with
  | none => exact isF_no h
  | some b => exact isR_no h
theorem isB_low {i a : Int} {o : Option Int} (h : i < a) : isB (.int i) a o = false := by
  cases o with
  | none => exact decide_eq_false (by omega)
  | some b =>
    show (decide (a ≤ i) && decide (i ≤ b)) = false
    rw [decide_eq_false (by omega), Bool.false_and]
theorem isB_hi {i a b : Int} (h : b < i) : isB (.int i) a (some b) = false := by
  show (decide (a ≤ i) && decide (i ≤ b)) = false
  rw [decide_eq_false (show ¬ i ≤ b by omega), Bool.and_false]
section
variable {P : Program} {w : World} {K : PySem.W.Frag} {mg : Str → Option Value} {base : Heap} (B : Bl K mg)
include B
def spRich (K : PySem.W.Frag) : Sp := fun vs H Q _ => ∃ (c : Int) (tn : Nat), vs = [.int c, .int tn] ∧ tn ≤ 100000 ∧ ∀ n H', Same H H' → 0 ≤ n → Q (.int n) H'
theorem k__law_rich (D : Df K mg "_law_rich" s__law_rich ["_law_cell", "_law_turn"]) : Dn P w K mg base 1 "_law_rich" ["_law_cell", "_law_turn"] (spRich K) := by
  refine D.ok fun f fd F => okG0 F sc__law_rich (fun vs H Q E h => ?_) (fun cdv A outer s H vs Q E hr h => ⟨_, (pss_cons (ps_set (i := 2) sc__law_rich.nd rfl (Or.inl rfl) pe_int)
    (pss_cons (ps_for PassesOwn.never rfl (kk (K := K) (F := fun K => iEnumT K _) (P := PI _ _ _) (pi_enumT (by rfl) B.enumerate_ (pa_cons (pe_tup (pa_cons pe_int (pa_cons pe_int (pa_cons pe_int (pa_cons pe_int (pa_cons pe_int (pa_cons pe_int pa_nil))))))) pa_nil))) (kk (K := K) (F := fun K => gTup K 2 _) (P := PG _ _) (pg_tup rfl (pgs_cons (pg_name (i := 3) sc__law_rich.nd rfl (Or.inl rfl)) (pgs_cons (pg_name (i := 4) sc__law_rich.nd rfl (Or.inl rfl)) pgs_nil))))
      (pss_cons (ps_set (i := 5) sc__law_rich.nd rfl (Or.inl rfl) (pe_op op_mod (pe_op op_mulX (pe_op op_add (pe_op op_mod (pe_callB call_abs (by rfl) B.abs_ (by decide +kernel) (pa_cons (pv 0) pa_nil)) (pv 4)) pe_int) (pe_op op_add (pe_op op_add (pe_op op_mulX pe_int (pv 1)) (pe_op op_mulX pe_int (pv 3))) pe_int)) (pv 4)))
      (pss_one (ps_set (i := 2) sc__law_rich.nd rfl (Or.inl rfl) (pe_op op_add (pe_op op_mulX (pv 2) (pv 4)) (pe_op op_mod (pe_op op_add (pe_op op_add (pe_op op_pow (pv 5) pe_int) (pe_op op_mulX pe_int (pv 5))) (pv 3)) (pv 4)))))))
    (pss_one (ps_ret (pv 2))))), ?_⟩)
  · obtain ⟨c, tn, rfl, _⟩ := h; rfl
  · obtain ⟨c, tn, rfl, ht, q⟩ := h
    refine ⟨sz, fun t ht2 => ⟨t, _, rfl, SqT.of upd_same, ?_⟩⟩
    have S1 := same_new ht2 (.tup [.int 2147483647, .int 2147483629, .int 2147483587, .int 2147483579, .int 2147483563, .int 2147483549])
    refine for_enumT (K := K) (a := t) (xs := [.int 2147483647, .int 2147483629, .int 2147483587, .int 2147483579, .int 2147483563, .int 2147483549]) (fun i σ H2 => ∃ (f : Int) (v3 v4 v5 : Option V), σ = [some (.int c), some (.int tn), some (.int f), v3, v4, v5] ∧ Same H H2 ∧ H2 t = some (.tup [.int 2147483647, .int 2147483629, .int 2147483587, .int 2147483579, .int 2147483563, .int 2147483549]) ∧ 0 ≤ f ∧ f < 2 ^ (32 * i + 1)) ⟨1, none, none, none, rfl, S1, upd_same, by decide, by decide⟩ (fun i σ H2 _ h => by obtain ⟨_, _, _, _, _, _, h2, _⟩ := h; exact SqT.of h2) ?_ ?_
    · rintro i y T σ H2 hi ⟨f, v3, v4, v5, rfl, S2, ht3, f0, f1⟩ hT
      obtain ⟨z, hz, z0, z1⟩ := primes6 i (by have := (List.getElem?_eq_some_iff.mp hi).1; exact this)
      rw [hz] at hi
      cases (Option.some.inj hi)
      have hi6 : i < 6 := (List.getElem?_eq_some_iff.mp hz).1
      have f2 : f < 2 ^ 200 := Int.lt_of_lt_of_le f1 ((by decide : ∀ i, i < 6 → (2 : Int) ^ (32 * i + 1) ≤ 2 ^ 200) i hi6)
      have m1 := Int.emod_nonneg (if c < 0 then -c else c) (by omega : z ≠ 0)
      have m2 := Int.emod_lt_of_pos (if c < 0 then -c else c) (by omega : 0 < z)
      have S3 := same_new hT (.tup [.int i, .int z])
      refine ⟨T, _, rfl, SqT.of upd_same, rfl, _, _, rfl, _, _, rfl, rfl, ?_⟩
      refine ⟨_, rfl, _, rfl, _, rfl, _, _, rfl, rfl, by omega, _, _, rfl, rfl, ?_⟩
      refine ⟨_, rfl, _, _, rfl, rfl, mulx 3 20 (by decide) (by omega), _, rfl, _, _, rfl, rfl, mulx 20 3 (by decide) (by omega), _, _, rfl, rfl, _, _, rfl, rfl, _, _, rfl, rfl, mulx 33 30 (by omega) (by omega), _, rfl, _, _, rfl, rfl, by omega, ?_⟩
      have g1 := Int.emod_nonneg (((if c < 0 then -c else c) % z + 1) * (7 * (tn : Int) + 1000003 * (i : Int) + 68)) (by omega : z ≠ 0)
      have g2 := Int.emod_lt_of_pos (((if c < 0 then -c else c) % z + 1) * (7 * (tn : Int) + 1000003 * (i : Int) + 68)) (by omega : 0 < z)
      obtain ⟨sd, hsd⟩ : ∃ sd : Int, sd = (((if c < 0 then -c else c) % z + 1) * (7 * (tn : Int) + 1000003 * (i : Int) + 68)) % z := ⟨_, rfl⟩
      rw [← hsd] at g1 g2
      refine ⟨_, rfl, _, rfl, _, _, rfl, rfl, mulx 200 32 (by omega) (by omega), _, rfl, _, _, rfl, rfl, ⟨by decide, by decide, by omega⟩, _, rfl, _, _, rfl, rfl, mulx 16 32 (by decide) (by omega), _, _, rfl, rfl, _, rfl, _, _, rfl, rfl, _, rfl, _, _, rfl, rfl, by omega, _, _, rfl, rfl, ?_⟩
      have e1 := Int.emod_nonneg (sd ^ Int.toNat 5 + 40693 * sd + (i : Int)) (by omega : z ≠ 0)
      have e2 := Int.emod_lt_of_pos (sd ^ Int.toNat 5 + 40693 * sd + (i : Int)) (by omega : 0 < z)
      have e3 : 0 ≤ f * z := Int.mul_nonneg f0 (by omega)
      have e4 : f * z ≤ f * 2147483647 := Int.mul_le_mul_of_nonneg_left z1 f0
      have e5 : (2 : Int) ^ (32 * (i + 1) + 1) = 2 ^ (32 * i + 1) * 2 ^ 32 := by rw [← Int.pow_add]; exact congrArg (fun n : Nat => (2 : Int) ^ n) (by omega)
      rw [hsd] at e1 e2
      refine ⟨_, _, _, _, rfl, S2.trans S3, S3 _ _ ht3, by omega, ?_⟩
      rw [e5]
      omega
    · rintro σ H2 ⟨f, v3, v4, v5, rfl, S2, ht3, f0, f1⟩
      exact ⟨_, rfl, q f _ S2 f0⟩
def PurseAt (H : Hp) (p : Addr) (cap : Nat) : Prop := ∃ (a c : Int) (tn : Nat), H p = some (.lst [.int a, .int c, .int tn]) ∧ 0 ≤ a ∧ tn ≤ cap
theorem PurseAt.same {H H' : Hp} {p : Addr} {n : Nat} (e : Same H H') (h : PurseAt H p n) : PurseAt H' p n := by
  obtain ⟨a, c, t, h1, h2⟩ := h; exact ⟨a, c, t, e _ _ h1, h2⟩
theorem PurseAt.upd {H : Hp} {p D : Addr} {o : HO} {n : Nat} (e : p ≠ D) (h : PurseAt H p n) : PurseAt (L2.upd H D o) p n := by
  obtain ⟨a, c, t, h1, h2⟩ := h; exact ⟨a, c, t, by rw [upd_ne e]; exact h1, h2⟩
theorem purse_ne {H : Hp} {p a : Addr} {n : Nat} (h : PurseAt H p n) (m : H a = none) : a ≠ p := fun z => by obtain ⟨_, _, _, h1, _⟩ := h; rw [← z, m] at h1; cases h1
def spPurse (K : PySem.W.Frag) : Sp := fun vs H Q _ => ∃ (a : Addr) (ns : List Int) (k : Nat), vs = [.ref a, .int k] ∧ SqL K H a (ns.map V.int) ∧ k ≤ 60 ∧ ∀ p H', H p = none → Same H H' → PurseAt H' p 60 → Q (.ref p) H'
theorem k__law_purse (D : Df K mg "_law_purse" s__law_purse ["_law_script", "_law_k"]) : Dn P w K mg base 1 "_law_purse" ["_law_script", "_law_k"] (spPurse K) := by
  refine D.ok fun f fd F => okG0 F sc__law_purse (fun vs H Q E h => ?_) (fun cdv A outer s H vs Q E hr h => ⟨_, (pss_cons (ps_set (i := 2) sc__law_purse.nd rfl (Or.inl rfl) (pe_ifExp (pt_cmpR op_lt (pv 1) (pe_callB (lenK (K := K)) (by rfl) B.len_ (by decide +kernel) (pa_cons (pv 0) pa_nil)) (nomark _)) (pe_ix (kk (K := K) (F := rIxL) (P := IxR _) ix_list) (pv 0) (pv 1) (fun _ _ => rfl)) pe_int))
    (pss_one (ps_ret (pe_lst (pa_cons (pe_callB (call_max2 rfl) (by rfl) B.max_ (by decide +kernel) (pa_cons pe_int (pa_cons (pe_op op_sub (pv 2) (pe_op op_pow pe_int pe_int)) pa_nil))) (pa_cons (pv 2) (pa_cons (pv 1) pa_nil))))))), ?_⟩)
  · obtain ⟨a, ns, k, rfl, _⟩ := h; rfl
  · obtain ⟨a, ns, k, rfl, hs, hk, q⟩ := h
    refine ⟨_, rfl, _, rfl, a, _, rfl, .inl hs, _, _, rfl, rfl, _, rfl, ?_⟩
    refine ifE (fun v H' => H' = H ∧ ∃ c : Int, v = .int c) ?_ (fun c Q' q' => ?_) (fun c Q' q' => q' _ _ ⟨rfl, 0, rfl⟩)
    · rintro _ _ ⟨rfl, c, rfl⟩
      refine ⟨_, rfl, _, _, rfl, rfl, ⟨by decide, by decide, by decide⟩, _, _, rfl, rfl, _, _, rfl, _, rfl, _, rfl, sz, fun p hp => ?_⟩
      refine q p _ hp (same_new hp _) ⟨_, _, _, upd_same, ?_, hk⟩
      split <;> omega
    · have c' : (k : Int) < ((ns.map V.int).length : Nat) := of_decide_eq_true c
      have hk2 : k < ns.length := by rw [List.length_map] at c'; omega
      refine ⟨_, rfl, _, rfl, a, _, _, _, rfl, rfl, hs, at_of (j := k) rfl (by rw [List.getElem?_map, List.getElem?_eq_getElem hk2] <;> rfl), ?_⟩
      exact q' _ _ ⟨rfl, _, rfl⟩
def spTakeP (K : PySem.W.Frag) : Sp := fun vs H Q _ => ∃ (p : Addr) (m : Int) (cap : Nat), vs = [.ref p, .int m] ∧ PurseAt H p cap ∧ cap ≤ 90000 ∧ 1 ≤ m ∧ m < 2 ^ 200 ∧ ∀ (d : Int) H', 0 ≤ d → d < m → But p H H' → PurseAt H' p (cap + 64) → Q (.int d) H'
theorem k__law_take (D : Df K mg "_law_take" s__law_take ["_law_purse_here", "_law_many"]) (D__law_rich : Dn P w K mg base 1 "_law_rich" ["_law_cell", "_law_turn"] (spRich K)) : Dn P w K mg base 2 "_law_take" ["_law_purse_here", "_law_many"] (spTakeP K) := by
  refine D.ok fun f fd F => okG0 F sc__law_take (fun vs H Q E h => ?_) (fun cdv A outer s H vs Q E hr h => ⟨_, (pss_cons (ps_if (pt_cmpR op_eq (pe_ix (kk (K := K) (F := rIxL) (P := IxR _) ix_list) (pv 0) pe_int (fun _ _ => rfl)) pe_int (nomark _))
      (pss_cons (ps_asg (pe_cD D__law_rich (hr.less (by decide)) rfl (pa_cons (pe_ix (kk (K := K) (F := rIxL) (P := IxR _) ix_list) (pv 0) pe_int (fun _ _ => rfl)) (pa_cons (pe_ix (kk (K := K) (F := rIxL) (P := IxR _) ix_list) (pv 0) pe_int (fun _ _ => rfl)) pa_nil))) (pg_sub (pv 0) pe_int set_list))
      (pss_one (ps_asg (pe_op op_add (pe_ix (kk (K := K) (F := rIxL) (P := IxR _) ix_list) (pv 0) pe_int (fun _ _ => rfl)) pe_int) (pg_sub (pv 0) pe_int set_list))))
      pss_nil)
    (pss_cons (ps_set (i := 2) sc__law_take.nd rfl (Or.inl rfl) (pe_op op_mod (pe_ix (kk (K := K) (F := rIxL) (P := IxR _) ix_list) (pv 0) pe_int (fun _ _ => rfl)) (pv 1)))
    (pss_cons (ps_asg (pe_op op_fdivW (pe_ix (kk (K := K) (F := rIxL) (P := IxR _) ix_list) (pv 0) pe_int (fun _ _ => rfl)) (pv 1)) (pg_sub (pv 0) pe_int set_list))
    (pss_one (ps_ret (pv 2)))))), ?_⟩)
  · obtain ⟨p, m, cap, rfl, _⟩ := h; rfl
  · obtain ⟨p, m, cap, rfl, ⟨a, c, tn, hp, ha, ht⟩, hcap, hm, hm2, q⟩ := h
    have key : ∀ (a : Int) (tn : Nat) (H2 : Hp), But p H H2 → H2 p = some (.lst [.int a, .int c, .int tn]) → 0 ≤ a → tn ≤ cap + 64 → H2 p = some (.lst [.int a, .int c, .int tn]) ∧ PurseAt (upd H2 p (.lst [.int (a / m), .int c, .int tn])) p (cap + 64) ∧ But p H (upd H2 p (.lst [.int (a / m), .int c, .int tn])) ∧ 0 ≤ a % m ∧ a % m < m := by
      intro a tn H2 b h1 h2 h3
      refine ⟨h1, ⟨_, _, _, upd_same, Int.ediv_nonneg h2 (by omega), h3⟩, b.trans But.upd, Int.emod_nonneg _ (by omega), Int.emod_lt_of_pos _ (by omega)⟩
    refine ⟨_, rfl, p, _, _, _, rfl, rfl, SqL.of hp, at_of (j := 0) rfl rfl, rfl, _, rfl, ite2 (fun e => ?_) (fun e => ?_)⟩
    · refine ⟨_, rfl, p, _, _, _, rfl, rfl, SqL.of hp, at_of (j := 1) rfl rfl, _, rfl, p, _, _, _, rfl, rfl, SqL.of hp, at_of (j := 2) rfl rfl, c, tn, rfl, by omega, fun n H1 S1 n0 => ?_⟩
      have hp1 := S1 _ _ hp
      refine ⟨_, rfl, p, _, _, _, rfl, rfl, hp1, rfl, ?_⟩
      refine ⟨_, rfl, p, _, _, _, rfl, rfl, SqL.of upd_same, at_of (j := 2) rfl rfl, _, _, rfl, rfl, ?_⟩
      refine ⟨_, rfl, p, _, _, _, rfl, rfl, upd_same, rfl, ?_⟩
      obtain ⟨k1, k2, k3, k4, k5⟩ := key n (tn + 64) _ (((same_but S1).trans But.upd).trans But.upd) upd_same n0 (by omega)
      refine ⟨_, rfl, p, _, _, _, rfl, rfl, SqL.of k1, at_of (j := 0) rfl rfl, _, rfl, _, _, rfl, rfl, by omega, ?_⟩
      refine ⟨_, rfl, p, _, _, _, rfl, rfl, SqL.of k1, at_of (j := 0) rfl rfl, _, rfl, _, _, rfl, rfl, wide_div (b := 200) (by omega) (by omega) (by decide) (by decide), ?_⟩
      refine ⟨_, rfl, p, _, _, _, rfl, rfl, k1, rfl, _, rfl, ?_⟩
      exact q _ _ k4 k5 k3 k2
    · obtain ⟨k1, k2, k3, k4, k5⟩ := key a tn H (same_but (Same.refl H)) hp ha (by omega)
      refine ⟨_, rfl, p, _, _, _, rfl, rfl, SqL.of k1, at_of (j := 0) rfl rfl, _, rfl, _, _, rfl, rfl, by omega, ?_⟩
      refine ⟨_, rfl, p, _, _, _, rfl, rfl, SqL.of k1, at_of (j := 0) rfl rfl, _, rfl, _, _, rfl, rfl, wide_div (b := 200) (by omega) (by omega) (by decide) (by decide), ?_⟩
      refine ⟨_, rfl, p, _, _, _, rfl, rfl, k1, rfl, _, rfl, ?_⟩
      exact q _ _ k4 k5 k3 k2
/-! SPLIT -/
local macro_rules | `(tactic| walk_at "own") => `(tactic| fail)
local macro_rules | `(tactic| walk_at "sm") => `(tactic| first
  | with_reducible assumption
  | exact fun _ _ z => z
  | (apply Toy.same_bk; (with_reducible assumption); walk_at "sm")
  | solve_by_elim only [Toy.same_bk, *])
local macro_rules | `(tactic| walk_at "hp") => `(tactic| ((with_reducible refine (?_ : _ = some _)); first
  | with_reducible assumption
  | exact L2.upd_same
  | (apply Toy.hp_new; assumption; walk_at "hp")
  | (apply Toy.hp_at; (with_reducible assumption); walk_at "sm")))
local macro_rules | `(tactic| walk_at "sql") => `(tactic| first
  | with_reducible assumption
  | (apply L2.SqL.of; walk_at "hp")
  | (apply Toy.sql_at; (with_reducible assumption); walk_at "sm"))
local macro_rules | `(tactic| walk_at "sqt") => `(tactic| first
  | with_reducible assumption
  | (apply L2.SqT.of; walk_at "hp")
  | (apply Toy.sqt_at; (with_reducible assumption); walk_at "sm"))
local macro_rules | `(tactic| walk_at "ar") => `(tactic| first
  | with_reducible refine (?_ : (_ : Int) < _)
  | with_reducible refine (?_ : (_ : Int) ≤ _)
  | with_reducible refine (?_ : (_ : Nat) < _)
  | with_reducible refine (?_ : (_ : Nat) ≤ _)
  | with_reducible refine (?_ : (_ : Int) = _)
  | with_reducible refine (?_ : (_ : Nat) = _)
  | with_reducible refine (?_ : ¬ _)
  | with_reducible refine (?_ : _ ∧ _))
local macro_rules | `(tactic| walk_at "om") => `(tactic| (walk_at "ar"; omega))
local macro_rules | `(tactic| walk_at "num") => `(tactic| first
  | (walk_at "ar"; first
    | omega
    | (simp only [List.length_map, List.length_append, List.length_cons, List.length_nil, List.length_replicate, List.length_take, List.length_drop, List.length_range, List.length_set, List.length_reverse] <;> omega)
    | decide
    | (split <;> split <;> omega)
    | (split <;> omega))
  | decide)
local macro_rules | `(tactic| walk_at "side") => `(tactic| first
  | with_reducible rfl
  | walk_at "om"
  | with_reducible assumption
  | exact Toy.sz
  | (apply L2.SqL.of; walk_at "hp")
  | (apply L2.SqT.of; walk_at "hp")
  | (with_reducible apply Or.inl; walk_at "sql")
  | (with_reducible apply Or.inr; walk_at "sqt")
  | (with_reducible apply Exists.intro; walk_at "side")
  | walk_at "hp"
  | exact Eq.refl _
  | (apply Toy.lk1000; walk_at "num")
  | (apply Toy.lt1000; walk_at "num")
  | walk_at "num"
  | (apply Toy.lst_dp; apply L2.SqL.of; walk_at "hp")
  | (apply Toy.tupI_dp; apply L2.SqT.of; walk_at "hp")
  | exact Toy.ints_sh _
  | exact Toy.tupI_sh _
  | (apply L2.RgOk.of_le <;> walk_at "num")
  | (apply L2.atI_nat; assumption)
  | exact L2.Dp.lst (L2.SqL.of (by walk_at "hp")) L2.DpAll.nil
  | exact L2.Dp.tup (L2.SqT.of (by walk_at "hp")) L2.DpAll.nil
  | (apply Toy.ixn; walk_at "num")
  | exact Toy.tyL (by walk_at "hp")
  | walk_at "sql"
  | walk_at "sqt"
  | exact L2.ClsV.ty _
  | (apply L2.TyX.base; first | exact L2.TyOf.int _ | exact L2.TyOf.bl _ | exact L2.TyOf.non | exact L2.TyOf.str _ | (apply L2.TyOf.tup; walk_at "hp") | (apply L2.TyOf.lst; walk_at "hp"))
  | exact L2.kit_ty (r := true) (by decide +kernel)
  | exact L2.kit_ty (r := false) (by decide +kernel)
  | walk_at "own"
  | assumption
  | (walk_at "ar"; solve_by_elim only [Toy.hp_same, Toy.hp_new, L2.upd_same, *]))
local macro_rules | `(tactic| walk_at "go") => `(tactic| first
  | (apply And.intro; (focus (walk_at "side")); try walk_at "go")
  | (apply Exists.intro; rotate_left; (fail_if_success (with_reducible refine (?_ : Nat → _ → _))); (fail_if_success (with_reducible refine (?_ : L2.St → _ → _))); rotate_right; try walk_at "go")
  | (apply Or.inl; apply And.intro; (focus (walk_at "sql")); try walk_at "go")
  | (apply Or.inr; apply And.intro; (focus (walk_at "sqt")); try walk_at "go"))
/-! ENDM -/
def spWhT (K : PySem.W.Frag) : Sp := fun vs H Q _ => ∃ (v : V) (d : PyData) (p : Addr), vs = [v] ∧ Th K p H v d ∧ Q (.bl (isWh d)) H
theorem k_is_whole (D : Df K mg "is_whole" s_is_whole ["thing"]) : Dn P w K mg base 1 "is_whole" ["thing"] (spWhT K) := by
  refine D.ok fun f fd F => okG0 F sc_is_whole (fun vs H Q E h => ?_) (fun cdv A outer s H vs Q E hr h => ⟨_, (pss_one (ps_ret (pe_and (pe_callB (kk (K := K) (F := rIsi) (P := CallR _ _) call_isi) (by rfl) B.isinstance_ (by decide +kernel) (pa_cons (pv 0) (pa_cons (pe_bltn (v := .ty "int") (u := .type "int") (by rfl) B.int_ (by decide +kernel) rfl) pa_nil))) (pe_one (pe_not (pe_callB (kk (K := K) (F := rIsi) (P := CallR _ _) call_isi) (by rfl) B.isinstance_ (by decide +kernel) (pa_cons (pv 0) (pa_cons (pe_bltn (v := .ty "bool") (u := .type "bool") (by rfl) B.bool_ (by decide +kernel) rfl) pa_nil)))))))), ?_⟩)
  · obtain ⟨v, d, p, rfl, _⟩ := h; rfl
  · obtain ⟨v, d, p, rfl, hd, q⟩ := h
    have ty := hd.ty
    have k1 := kit_in (K := K) d
    have k2 := kit_bl (K := K) d
    rw [isWh_eq] at q
    generalize isIn d = x at k1 q
    generalize isBl d = y at k2 q
    cases x
    all_goals
      try walk_at "go"
      first | exact q | exact ifF rfl q | exact ifT rfl q
def spInT (K : PySem.W.Frag) : Sp := fun vs H Q _ => ∃ (v : V) (d : PyData) (p : Addr) (a b : Int), vs = [v, .int a, .int b] ∧ Th K p H v d ∧ Q (.bl (isR d a b)) H
theorem k_is_within (D : Df K mg "is_within" s_is_within ["thing", "least", "most"]) (D_is_whole : Dn P w K mg base 1 "is_whole" ["thing"] (spWhT K)) : Dn P w K mg base 2 "is_within" ["thing", "least", "most"] (spInT K) := by
  refine D.ok fun f fd F => okG0 F sc_is_within (fun vs H Q E h => ?_) (fun cdv A outer s H vs Q E hr h => ⟨_, (pss_one (ps_ret (pe_and (pe_cD D_is_whole (hr.less (by decide)) rfl (pa_cons (pv 0) pa_nil)) (pe_one (pe_chain op_le op_le (pv 1) (pv 0) (pv 2)))))), ?_⟩)
  · obtain ⟨v, d, p, a, b, rfl, _⟩ := h; rfl
  · obtain ⟨v, d, p, a, b, rfl, hd, q⟩ := h
    try walk_at "go"
    cases e : isWh d with
    | false =>
      rw [isR_no e] at q
      try walk_at "go"
      exact q
    | true =>
      obtain ⟨i, rfl⟩ := isWh_inv e
      cases hd.int_inv
      replace q : Q (.bl (decide (a ≤ i) && decide (i ≤ b))) H := q
      try walk_at "go"
      refine ite2 (fun c => ?_) (fun c => ?_)
      · rw [c, Bool.true_and] at q
        try walk_at "go"
        exact q
      · rw [Bool.eq_false_iff.mpr c, Bool.false_and] at q
        try walk_at "go"
        exact q
def spNetT (K : PySem.W.Frag) (C : Addr) : Sp := fun vs H Q E => ∃ (v : V) (d : PyData) (p : Addr) (m : Int), vs = [v, .int m] ∧ Th K p H v d ∧ (isR d 0 m = true → Q .non H) ∧ (isR d 0 m = false → E (.ref C) none H)
theorem k_want_net (D : Dfd K mg "want_net" s_want_net ["k", "deepest"] [.int 4]) (D_is_within : Dn P w K mg base 2 "is_within" ["thing", "least", "most"] (spInT K)) : DxD P w K mg base 3 "want_net" ["k", "deepest"] [.int 4] (spNetT K (cAt mg "NoNet")) := by
  refine D.okX fun f fd F => okGA F sc_want_net (fun vs H Q E h => ?_) (fun cdv A outer s H vs Q E hr h => ⟨_, (pss_one (ps_if (pt_not (pt_val (pe_cD D_is_within (hr.less (by decide)) rfl (pa_cons (pv 0) (pa_cons pe_int (pa_cons (pv 1) pa_nil))))))
     (pss_one (ps_raise rfl (takes_of rfl rfl rfl rfl) (pmk_own PySem.F.excBase_ValueError B.NoNet_.ex B.NoNet_.mg_ B.NoNet_.kp (raises_own B.NoNet_.bs B.NoNet_.tp) rfl)))
     pss_nil)), ?_⟩)
  · obtain ⟨v, d, p, m, rfl, _⟩ := h; rfl
  · obtain ⟨v, d, p, m, rfl, hd, q1, q2⟩ := h
    try walk_at "go"
    cases e : isR d 0 m with
    | true =>
      try walk_at "go"
      refine ifF rfl ?_
      try walk_at "go"
      exact q1 e
    | false =>
      try walk_at "go"
      refine ifT rfl ?_
      exact q2 e
theorem k_want_net_all (D : Dfd K mg "want_net" s_want_net ["k", "deepest"] []) (D_is_within : Dn P w K mg base 2 "is_within" ["thing", "least", "most"] (spInT K)) : DxD P w K mg base 3 "want_net" ["k", "deepest"] [] (spNetT K (cAt mg "NoNet")) := by
  refine D.okX fun f fd F => okGA F sc_want_net (fun vs H Q E h => ?_) (fun cdv A outer s H vs Q E hr h => ⟨_, (pss_one (ps_if (pt_not (pt_val (pe_cD D_is_within (hr.less (by decide)) rfl (pa_cons (pv 0) (pa_cons pe_int (pa_cons (pv 1) pa_nil))))))
     (pss_one (ps_raise rfl (takes_of rfl rfl rfl rfl) (pmk_own PySem.F.excBase_ValueError B.NoNet_.ex B.NoNet_.mg_ B.NoNet_.kp (raises_own B.NoNet_.bs B.NoNet_.tp) rfl)))
     pss_nil)), ?_⟩)
  · obtain ⟨v, d, p, m, rfl, _⟩ := h; rfl
  · obtain ⟨v, d, p, m, rfl, hd, q1, q2⟩ := h
    try walk_at "go"
    cases e : isR d 0 m with
    | true =>
      try walk_at "go"
      refine ifF rfl ?_
      try walk_at "go"
      exact q1 e
    | false =>
      try walk_at "go"
      refine ifT rfl ?_
      exact q2 e
def spLow : Sp := fun vs H Q _ => ∃ k h g lv : Nat, vs = [.int k, .int h, .int g, .int lv] ∧ k ≤ 4 ∧ lv ≤ k ∧ g < 2 ^ k ∧ Q (.int (low k h g lv)) H
theorem k_line_on_way (D : Df K mg "line_on_way" s_line_on_way ["k", "hand", "goal", "level"]) : Dn P w K mg base 1 "line_on_way" ["k", "hand", "goal", "level"] spLow := by
  refine D.ok fun f fd F => okG0 F sc_line_on_way (fun vs H Q E h => ?_) (fun cdv A outer s H vs Q E hr h => ⟨_, (pss_cons (ps_set (i := 4) sc_line_on_way.nd rfl (Or.inl rfl) (pe_op op_sub (pv 0) (pv 3)))
    (pss_one (ps_ret (pe_op op_or (pe_op op_shlW (pe_op op_shr (pv 2) (pv 4)) (pv 4)) (pe_op op_and (pv 1) (pe_op op_sub (pe_op op_shlW pe_int (pv 4)) pe_int)))))), ?_⟩)
  · obtain ⟨k, x, g, lv, rfl, _⟩ := h; rfl
  · obtain ⟨k, x, g, lv, rfl, h1, h2, h3, q⟩ := h
    have h4 := pow16 h1 h3
    refine ⟨_, rfl, _, rfl, _, _, rfl, rfl, ?_⟩
    refine ⟨_, rfl, _, rfl, _, _, rfl, rfl, by omega, _, rfl, _, _, rfl, rfl, shl_small (div_small (Nat.lt_of_lt_of_le h4 (by decide))) (by omega) (by omega), ?_⟩
    refine ⟨_, rfl, _, rfl, _, _, rfl, rfl, shl_small (by decide) (by omega) (by omega), _, _, rfl, rfl, _, _, rfl, rfl, _, _, rfl, rfl, ?_⟩
    exact q
def spNwo : Sp := fun vs H Q _ => ∃ k l st : Nat, vs = [.int k, .int l, .int st] ∧ k ≤ 4 ∧ st ≤ k ∧ l < 2 ^ k ∧ Q (.int (nwo k l st)) H
theorem k_number_without (D : Df K mg "number_without" s_number_without ["k", "line", "stage"]) : Dn P w K mg base 1 "number_without" ["k", "line", "stage"] spNwo := by
  refine D.ok fun f fd F => okG0 F sc_number_without (fun vs H Q E h => ?_) (fun cdv A outer s H vs Q E hr h => ⟨_, (pss_cons (ps_set (i := 3) sc_number_without.nd rfl (Or.inl rfl) (pe_op op_sub (pv 0) (pv 2)))
    (pss_one (ps_ret (pe_op op_or (pe_op op_shlW (pe_op op_shr (pv 1) (pe_op op_add (pv 3) pe_int)) (pv 3)) (pe_op op_and (pv 1) (pe_op op_sub (pe_op op_shlW pe_int (pv 3)) pe_int)))))), ?_⟩)
  · obtain ⟨k, l, st, rfl, _⟩ := h; rfl
  · obtain ⟨k, l, st, rfl, h1, h2, h3, q⟩ := h
    have h4 := pow16 h1 h3
    refine ⟨_, rfl, _, rfl, _, _, rfl, rfl, ?_⟩
    refine ⟨_, rfl, _, rfl, _, _, rfl, rfl, _, _, rfl, rfl, by omega, _, rfl, _, _, rfl, rfl, shl_small (div_small (Nat.lt_of_lt_of_le h4 (by decide))) (by omega) (by omega), ?_⟩
    refine ⟨_, rfl, _, rfl, _, _, rfl, rfl, shl_small (by decide) (by omega) (by omega), _, _, rfl, rfl, _, _, rfl, rfl, _, _, rfl, rfl, ?_⟩
    exact q
/-! settings as rows of 0 and 1 -/
/-- settings as told -/
def Tbl := Nat → Nat → Int
omit B in
theorem row_len {k : Nat} {s : Nat → Nat → Int} {j : Nat} : (row k s j).length = 2 ^ (k - 1) := by unfold row; rw [List.length_map, List.length_range]
omit B in
theorem row_at {k : Nat} {s : Nat → Nat → Int} {j n : Nat} (h : n < 2 ^ (k - 1)) : (row k s j)[n]? = some (s j n) := by unfold row; rw [List.getElem?_map, List.getElem?_range h] <;> rfl
omit B in
theorem row_bit {k : Nat} {s : Nat → Nat → Int} {j : Nat} (h : Bt s) : ∀ x ∈ row k s j, x = 0 ∨ x = 1 := fun x hx => by
  obtain ⟨n, _, rfl⟩ := List.mem_map.mp hx
  exact h j n
def SeAt (H : Hp) (T : Addr) (k : Nat) (s : Nat → Nat → Int) : Prop := ∃ as : List Addr, H T = some (.tup (as.map V.ref)) ∧ as.length = k ∧ ∀ (j : Nat) (a : Addr), as[j]? = some a → H a = some (.tup ((row k s j).map V.int))
omit B in
theorem SeAt.same {H H' : Hp} {T : Addr} {k : Nat} {s : Nat → Nat → Int} (a : SeAt H T k s) (e : Same H H') : SeAt H' T k s := by
  obtain ⟨as, h1, h2, h3⟩ := a
  exact ⟨as, e _ _ h1, h2, fun j x hx => e _ _ (h3 j x hx)⟩
def nV (ss : List Nat) : List V := ss.map fun n => V.int (n : Nat)
omit B in
theorem nV_snoc {ss : List Nat} {n : Nat} : nV ss ++ [.int (n : Nat)] = nV (ss ++ [n]) := by unfold nV; rw [List.map_append] <;> rfl
omit B in
theorem mV_snoc {α : Type} {f : α → V} {ss : List α} {n : α} : ss.map f ++ [f n] = (ss ++ [n]).map f := by rw [List.map_append] <;> rfl
/-- a side for each hand -/
def sdl (k : Nat) (g : Nat → Nat) : List Nat := (List.range (2 ^ k)).map g
omit B in
theorem sdl_len {k : Nat} {g : Nat → Nat} : (nV (sdl k g)).length = 2 ^ k := by unfold nV sdl; rw [List.length_map, List.length_map, List.length_range]
omit B in
theorem sdl_at {k i : Nat} {g : Nat → Nat} {x : V} (h : (nV (sdl k g))[i]? = some x) : i < 2 ^ k ∧ x = .int (g i : Nat) := by
  have l := (List.getElem?_eq_some_iff.mp h).1
  rw [sdl_len] at l
  unfold nV sdl at h
  rw [List.getElem?_map, List.getElem?_map, List.getElem?_range l] at h
  exact ⟨l, (Option.some.inj h).symm⟩
omit B in
theorem ints_refs {ns : List Int} {rs : List Addr} (h : ns ≠ []) : HO.lst (ns.map V.int) ≠ HO.lst (rs.map V.ref) := fun z => by
  have z2 := HO.lst.inj z
  cases ns with
  | nil => exact h rfl
  | cons n ns =>
    cases rs with
    | nil => cases z2
    | cons r rs => cases z2
/-- the stepper stops here -/
structure Kept (p : Prop) : Prop where
  ex : p
/-- rows of numbers that are written into -/
structure RowsAt (H : Hp) (rs : List Addr) (k : Nat) (c : Nat → Nat → Int) : Prop where
  len : rs.length = k
  inj : ∀ (i j : Nat) (a : Addr), rs[i]? = some a → rs[j]? = some a → i = j
  at_ : ∀ (j : Nat) (a : Addr), rs[j]? = some a → H a = some (.lst ((row k c j).map V.int))
omit B in
theorem row_ne {k j : Nat} {c : Nat → Nat → Int} : row k c j ≠ [] := fun z => by
  have := congrArg List.length z
  rw [row_len] at this
  have h2 := Nat.two_pow_pos (k - 1)
  simp at this
omit B in
theorem RowsAt.upd {H H' : Hp} {rs : List Addr} {k j n : Nat} {c : Nat → Nat → Int} {v : Int} {a : Addr} (R : RowsAt H rs k c) (ha : rs[j]? = some a) (b : But a H H')
    (o : H' a = some (.lst (((row k c j).map V.int).set n (.int v)))) (hn : n < 2 ^ (k - 1)) : RowsAt H' rs k (wr c j n v) := by
  refine ⟨R.len, R.inj, fun i x hx => ?_⟩
  by_cases e : i = j
  · subst e
    rw [ha] at hx
    cases (Option.some.inj hx)
    rw [o, row_wr hn, List.map_set]
  · rw [row_wr_ne e]
    refine b _ _ (fun z => e ?_) (R.at_ i x hx)
    subst z
    exact R.inj i j x hx ha
omit B in
theorem RowsAt.same {H H' : Hp} {rs : List Addr} {k : Nat} {c : Nat → Nat → Int} (R : RowsAt H rs k c) (e : Same H H') : RowsAt H' rs k c := ⟨R.len, R.inj, fun j a h => e _ _ (R.at_ j a h)⟩
omit B in
theorem SeAt.get {H : Hp} {T : Addr} {k j n : Nat} {s : Nat → Nat → Int} (a : SeAt H T k s) (hj : j < k) (hn : n < 2 ^ (k - 1)) : ∃ (as : List Addr) (r : Addr), H T = some (.tup (as.map V.ref)) ∧ atI (as.map V.ref) (j : Int) = some (.ref r) ∧ H r = some (.tup ((row k s j).map V.int)) ∧ atI ((row k s j).map V.int) (n : Int) = some (.int (s j n)) := by
  obtain ⟨as, h1, h2, h3⟩ := a
  have e : as[j]? = some as[j] := List.getElem?_eq_getElem (by omega)
  exact ⟨as, as[j], h1, atI_nat (by rw [List.getElem?_map, e] <;> rfl), h3 _ _ e, atI_nat (by rw [List.getElem?_map, row_at hn] <;> rfl)⟩
omit B in
theorem bit_shl {c : Int} {k j : Nat} (hk : k ≤ 4) (hj : j < k) (h : c = 0 ∨ c = 1) : CShl c ((k : Int) - ((j + 1 : Nat) : Int)) := shl_small (by rcases h with rfl | rfl <;> decide) (by omega) (by omega)
omit B in
theorem bx_all : ∀ a, a < 16 → ∀ b, b < 16 → Builtin.bitXor (a : Nat) (b : Nat) = ((a ^^^ b : Nat) : Int) := by decide +kernel
omit B in
theorem bx {k a b : Nat} (hk : k < 5) (ha : a < 2 ^ k) (hb : b < 2 ^ k) : Builtin.bitXor (a : Nat) (b : Nat) = ((a ^^^ b : Nat) : Int) := by
  have e16 : 2 ^ k ≤ 16 := (Nat.pow_le_pow_right (by decide) (by omega) : 2 ^ k ≤ 2 ^ 4)
  exact bx_all a (by omega) b (by omega)
omit B in
theorem line_inv {d : PyData} {k : Nat} (h : isR d 0 (((2 ^ k : Nat) : Int) - 1) = true) : ∃ n : Nat, d = .int n ∧ n < 2 ^ k := by
  obtain ⟨i, e, h1, h2⟩ := isR_inv h
  exact ⟨i.toNat, by rw [e, Int.toNat_of_nonneg h1], by omega⟩
omit B in
theorem net_inv {d : PyData} (h : isR d 0 4 = true) : ∃ n : Nat, d = .int n ∧ n ≤ 4 := by
  obtain ⟨i, e, h1, h2⟩ := isR_inv h
  exact ⟨i.toNat, by rw [e, Int.toNat_of_nonneg h1], by omega⟩
omit B in
theorem p2k (k : Nat) : (1 : Int) * 2 ^ ((k : Nat) : Int).toNat = ((2 ^ k : Nat) : Int) := by rw [Int.one_mul, Int.toNat_natCast]; push_cast; rfl
def spLineT (K : PySem.W.Frag) : Sp := fun vs H Q _ => ∃ (v : V) (d : PyData) (p : Addr) (k : Nat), vs = [.int k, v] ∧ k ≤ 4 ∧ Th K p H v d ∧ Q (.bl (isR d 0 (((2 ^ k : Nat) : Int) - 1))) H
theorem k_is_line (D : Df K mg "is_line" s_is_line ["k", "thing"]) (D_is_whole : Dn P w K mg base 1 "is_whole" ["thing"] (spWhT K)) : Dn P w K mg base 2 "is_line" ["k", "thing"] (spLineT K) := by
  refine D.ok fun f fd F => okG0 F sc_is_line (fun vs H Q E h => ?_) (fun cdv A outer s H vs Q E hr h => ⟨_, (pss_one (ps_ret (pe_and (pe_cD D_is_whole (hr.less (by decide)) rfl (pa_cons (pv 1) pa_nil)) (pe_one (pe_chain op_le op_lt pe_int (pv 1) (pe_op op_shlW pe_int (pv 0))))))), ?_⟩)
  · obtain ⟨v, d, p, k, rfl, _⟩ := h; rfl
  · obtain ⟨v, d, p, k, rfl, hk, hd, q⟩ := h
    have hsh : CShl 1 (k : Int) := shl_ok (by omega)
    try walk_at "go"
    cases e : isWh d with
    | false =>
      rw [isR_no e] at q
      try walk_at "go"
      exact q
    | true =>
      obtain ⟨i, rfl⟩ := isWh_inv e
      cases hd.int_inv
      replace q : Q (.bl (decide (0 ≤ i) && decide (i ≤ ((2 ^ k : Nat) : Int) - 1))) H := q
      try walk_at "go"
      refine ite2 (fun c => ?_) (fun c => ?_)
      · rw [c, Bool.true_and] at q
        try walk_at "go"
        rw [p2k]
        rw [show decide (i ≤ ((2 ^ k : Nat) : Int) - 1) = decide (i < ((2 ^ k : Nat) : Int)) from decide_eq_decide.mpr (by omega)] at q
        exact q
      · rw [Bool.eq_false_iff.mpr c, Bool.false_and] at q
        try walk_at "go"
        exact q
def spWLT (K : PySem.W.Frag) (C : Addr) : Sp := fun vs H Q E => ∃ (v : V) (d : PyData) (p : Addr) (k : Nat), vs = [.int k, v] ∧ k ≤ 4 ∧ Th K p H v d ∧ (isR d 0 (((2 ^ k : Nat) : Int) - 1) = true → Q .non H) ∧ (isR d 0 (((2 ^ k : Nat) : Int) - 1) = false → E (.ref C) none H)
theorem k_want_hand (D : Df K mg "want_hand" s_want_hand ["k", "thing"]) (D_is_line : Dn P w K mg base 2 "is_line" ["k", "thing"] (spLineT K)) : Dx P w K mg base 3 "want_hand" ["k", "thing"] (spWLT K (cAt mg "NoHand")) := by
  refine D.okX fun f fd F => okGX F sc_want_hand (fun vs H Q E h => ?_) (fun cdv A outer s H vs Q E hr h => ⟨_, (pss_one (ps_if (pt_not (pt_val (pe_cD D_is_line (hr.less (by decide)) rfl (pa_cons (pv 0) (pa_cons (pv 1) pa_nil)))))
     (pss_one (ps_raise rfl (takes_of rfl rfl rfl rfl) (pmk_own PySem.F.excBase_ValueError B.NoHand_.ex B.NoHand_.mg_ B.NoHand_.kp (raises_own B.NoHand_.bs B.NoHand_.tp) rfl)))
     pss_nil)), ?_⟩)
  · obtain ⟨v, d, p, k, rfl, _⟩ := h; rfl
  · obtain ⟨v, d, p, k, rfl, hk, hd, q1, q2⟩ := h
    try walk_at "go"
    cases e : isR d 0 (((2 ^ k : Nat) : Int) - 1) with
    | true =>
      try walk_at "go"
      refine ifF rfl ?_
      try walk_at "go"
      exact q1 e
    | false =>
      try walk_at "go"
      refine ifT rfl ?_
      exact q2 e
theorem k_want_side (D : Df K mg "want_side" s_want_side ["k", "thing"]) (D_is_line : Dn P w K mg base 2 "is_line" ["k", "thing"] (spLineT K)) : Dx P w K mg base 3 "want_side" ["k", "thing"] (spWLT K (cAt mg "NoSide")) := by
  refine D.okX fun f fd F => okGX F sc_want_side (fun vs H Q E h => ?_) (fun cdv A outer s H vs Q E hr h => ⟨_, (pss_one (ps_if (pt_not (pt_val (pe_cD D_is_line (hr.less (by decide)) rfl (pa_cons (pv 0) (pa_cons (pv 1) pa_nil)))))
     (pss_one (ps_raise rfl (takes_of rfl rfl rfl rfl) (pmk_own PySem.F.excBase_ValueError B.NoSide_.ex B.NoSide_.mg_ B.NoSide_.kp (raises_own B.NoSide_.bs B.NoSide_.tp) rfl)))
     pss_nil)), ?_⟩)
  · obtain ⟨v, d, p, k, rfl, _⟩ := h; rfl
  · obtain ⟨v, d, p, k, rfl, hk, hd, q1, q2⟩ := h
    try walk_at "go"
    cases e : isR d 0 (((2 ^ k : Nat) : Int) - 1) with
    | true =>
      try walk_at "go"
      refine ifF rfl ?_
      try walk_at "go"
      exact q1 e
    | false =>
      try walk_at "go"
      refine ifT rfl ?_
      exact q2 e
def spWayT (K : PySem.W.Frag) (N M S : Addr) : Sp := fun vs H Q E => ∃ (u v w : V) (d e f : PyData) (p : Addr), vs = [u, v, w] ∧ Th K p H u d ∧ Th K p H v e ∧ Th K p H w f ∧
  (∀ k h g : Nat, d = .int k → e = .int h → f = .int g → k ≤ 4 → h < 2 ^ k → g < 2 ^ k → ∀ T H', Same H H' → H' T = some (.tup (((List.range (k + 1)).map (low k h g)).map V.int)) → Q (.ref T) H') ∧
  (isR d 0 4 = false → E (.ref N) none H) ∧ (∀ k : Nat, d = .int k → k ≤ 4 → isR e 0 (((2 ^ k : Nat) : Int) - 1) = false → E (.ref M) none H) ∧ (∀ k : Nat, d = .int k → k ≤ 4 → isR e 0 (((2 ^ k : Nat) : Int) - 1) = true → isR f 0 (((2 ^ k : Nat) : Int) - 1) = false → E (.ref S) none H)
theorem k_way (D : Df K mg "way" s_way ["k", "hand", "side"]) (D_want_net : DxD P w K mg base 3 "want_net" ["k", "deepest"] [.int 4] (spNetT K (cAt mg "NoNet"))) (D_want_net_all : DxD P w K mg base 3 "want_net" ["k", "deepest"] [] (spNetT K (cAt mg "NoNet"))) (D_want_hand : Dx P w K mg base 3 "want_hand" ["k", "thing"] (spWLT K (cAt mg "NoHand"))) (D_want_side : Dx P w K mg base 3 "want_side" ["k", "thing"] (spWLT K (cAt mg "NoSide"))) (D_line_on_way : Dn P w K mg base 1 "line_on_way" ["k", "hand", "goal", "level"] spLow) : Dx P w K mg base 4 "way" ["k", "hand", "side"] (spWayT K (cAt mg "NoNet") (cAt mg "NoHand") (cAt mg "NoSide")) := by
  refine D.okX fun f fd F => okGX F sc_way (fun vs H Q E h => ?_) (fun cdv A outer s H vs Q E hr h => ⟨_, (pss_cons (ps_expr (pe_cXd D_want_net (hr.less (by decide)) (takes_of rfl rfl rfl rfl) rfl (pa_cons (pv 0) pa_nil)))
    (pss_cons (ps_expr (pe_cW D_want_hand (hr.less (by decide)) (takes_of rfl rfl rfl rfl) rfl (pa_cons (pv 0) (pa_cons (pv 1) pa_nil))))
    (pss_cons (ps_expr (pe_cW D_want_side (hr.less (by decide)) (takes_of rfl rfl rfl rfl) rfl (pa_cons (pv 0) (pa_cons (pv 2) pa_nil))))
    (pss_one (ps_ret (pe_callTy (tupOfK (K := K)) (by rfl) B.tuple_ (by decide +kernel) (pa_cons (pe_lc (own := [("level", 3)]) (g := gName 3) (tt := tYes) rfl sc_way.nd (pi_range1 (by rfl) B.range_ (pa_cons (pe_op op_add (pv 0) pe_int) pa_nil)) (blkOk_by (own := [("level", 3)]) (N := ["k", "hand", "side", "level"]) (sc := defScope s_way) (by decide +kernel)) (fun _ _ _ _ _ => (pg_name (i := 3) sc_way.nd rfl (Or.inl rfl))) (fun _ _ _ _ _ => pts_nil) (fun _ _ _ _ _ => (pe_cD D_line_on_way (hr.less (by decide)) rfl (pa_cons (pv 0) (pa_cons (pv 1) (pa_cons (pv 2) (pa_cons (pv 3) pa_nil))))))) pa_nil))))))), ?_⟩)
  · obtain ⟨u, v, w, d, e, f, p, rfl, _⟩ := h; rfl
  · obtain ⟨u, v, w, d, e, f, p, rfl, hu, hv, hw, q1, q2, q3, q4⟩ := h
    try walk_at "go"
    refine ⟨fun c1 => ?_, q2⟩
    obtain ⟨k, rfl, k4⟩ := net_inv c1
    cases hu.int_inv
    try walk_at "go"
    refine ⟨fun c2 => ?_, q3 k rfl k4⟩
    obtain ⟨h, rfl, hh⟩ := line_inv c2
    cases hv.int_inv
    try walk_at "go"
    refine ⟨fun c3 => ?_, q4 k rfl k4 c2⟩
    obtain ⟨g, rfl, hg⟩ := line_inv c3
    cases hw.int_inv
    try walk_at "go"
    intro D hD
    have e : ((k : Int) + 1).toNat = k + 1 := by omega
    rw [e]
    refine lc_range (lo := 0) (n := k + 1) (fun i H2 => Kept (Same H H2 ∧ H2 D = some (.lst (((List.range i).map (low k h g)).map V.int)))) ⟨⟨same_new hD _, upd_same⟩⟩ ?_ ?_
    · rintro i H2 hi ⟨S2, hD2⟩
      rw [Int.zero_add]
      have ll : (((List.range i).map (low k h g)).map V.int).length ≤ 10 := by rw [List.length_map, List.length_map, List.length_range]; omega
      try walk_at "go"
      exact ⟨⟨but_same hD S2 But.upd, by rw [upd_same, List.range_succ, List.map_append, List.map_append] <;> rfl⟩⟩
    · rintro H2 ⟨S2, hD2⟩
      try walk_at "go"
      intro T hT
      generalize eH3 : upd _ T _ = H3
      have SH3 := newS eH3 hT
      have oT := newO eH3
      exact q1 k h g rfl rfl rfl k4 hh hg T _ (S2.trans SH3) oT
def spSwT (K : PySem.W.Frag) (N M S : Addr) : Sp := fun vs H Q E => ∃ (u v w : V) (d e f : PyData) (p : Addr), vs = [u, v, w] ∧ Th K p H u d ∧ Th K p H v e ∧ Th K p H w f ∧
  (∀ k h g : Nat, d = .int k → e = .int h → f = .int g → k ≤ 4 → h < 2 ^ k → g < 2 ^ k → ∀ T H', Same H H' → Q (.ref T) H') ∧
  (isR d 0 4 = false → E (.ref N) none H) ∧ (∀ k : Nat, d = .int k → k ≤ 4 → isR e 0 (((2 ^ k : Nat) : Int) - 1) = false → E (.ref M) none H) ∧ (∀ k : Nat, d = .int k → k ≤ 4 → isR e 0 (((2 ^ k : Nat) : Int) - 1) = true → isR f 0 (((2 ^ k : Nat) : Int) - 1) = false → E (.ref S) none H)
theorem k_switches (D : Df K mg "switches" s_switches ["k", "hand", "side"]) (D_way : Dx P w K mg base 4 "way" ["k", "hand", "side"] (spWayT K (cAt mg "NoNet") (cAt mg "NoHand") (cAt mg "NoSide"))) (D_number_without : Dn P w K mg base 1 "number_without" ["k", "line", "stage"] spNwo) : Dx P w K mg base 5 "switches" ["k", "hand", "side"] (spSwT K (cAt mg "NoNet") (cAt mg "NoHand") (cAt mg "NoSide")) := by
  refine D.okX fun f fd F => okGX F sc_switches (fun vs H Q E h => ?_) (fun cdv A outer s H vs Q E hr h => ⟨_, (pss_cons (ps_set (i := 3) sc_switches.nd rfl (Or.inr rfl) (pe_cW D_way (hr.less (by decide)) (takes_of rfl rfl rfl rfl) rfl (pa_cons (pv 0) (pa_cons (pv 1) (pa_cons (pv 2) pa_nil)))))
    (pss_one (ps_ret (pe_callTy (tupOfK (K := K)) (by rfl) B.tuple_ (by decide +kernel) (pa_cons (pe_lc (own := [("stage", 4)]) (g := gName 4) (tt := tYes) rfl sc_switches.nd (pi_range2 (by rfl) B.range_ (pa_cons pe_int (pa_cons (pe_op op_add (pv 0) pe_int) pa_nil))) (blkOk_by (own := [("stage", 4)]) (N := ["k", "hand", "side", "lines", "stage"]) (sc := defScope s_switches) (by decide +kernel)) (fun _ _ _ _ _ => (pg_name (i := 4) sc_switches.nd rfl (Or.inl rfl))) (fun _ _ _ _ _ => pts_nil) (fun _ _ _ _ _ => (pe_tup (pa_cons (pv 4) (pa_cons (pe_cD D_number_without (hr.less (by decide)) rfl (pa_cons (pv 0) (pa_cons (pe_ix (kk (K := K) (F := rIxT) (P := IxR _) ix_tup) (pv 3) (pe_op op_sub (pv 4) pe_int) (fun _ _ => rfl)) (pa_cons (pv 4) pa_nil)))) pa_nil))))) pa_nil))))), ?_⟩)
  · obtain ⟨u, v, w, d, e, f, p, rfl, _⟩ := h; rfl
  · obtain ⟨u, v, w, d, e, f, p, rfl, hu, hv, hw, q1, q2, q3, q4⟩ := h
    try walk_at "go"
    refine ⟨fun k x g ed ee ef h1 h2 h3 L H1 S1 hL => ?_, q2, q3, q4⟩
    subst ed ee ef
    cases hu.int_inv
    replace q1 := q1 k x g rfl rfl rfl h1 h2 h3
    try walk_at "go"
    intro D hD
    have e : ((k : Int) + 1 - 1).toNat = k := by omega
    rw [e]
    refine lc_range (lo := 1) (n := k) (fun i H2 => Kept (∃ as : List Addr, Same H1 H2 ∧ H2 D = some (.lst (as.map V.ref)) ∧ as.length = i)) ⟨⟨[], same_new hD _, upd_same, rfl⟩⟩ ?_ ?_
    · rintro i H2 hi ⟨as, S2, hD2, hl⟩
      obtain ⟨l1, l2⟩ := lline_in k (by omega) x h2 g h3 i (by omega)
      have l3 := low_is k (by omega) x h2 g h3 i (by omega)
      have l4 : lline k x g i = ((lline k x g i).toNat : Int) := by omega
      have l5 : (lline k x g i).toNat < 2 ^ k := by
        have : ((2 ^ k : Nat) : Int) = 2 ^ k := by push_cast; rfl
        omega
      have e1 : (1 : Int) + i = ((i + 1 : Nat) : Int) := by omega
      have e2 : (1 : Int) + i - 1 = (i : Nat) := by omega
      have hL2 := S2 _ _ hL
      have lal : (as.map V.ref).length ≤ 10 := by rw [List.length_map]; omega
      have ix : atI (((List.range (k + 1)).map (low k x g)).map V.int) (1 + (i : Int) - 1) = some (.int ((lline k x g i).toNat : Nat)) := by
        rw [e2]
        exact atI_nat (by rw [List.getElem?_map, List.getElem?_map, List.getElem?_range (by omega)]; show some (V.int (low k x g i)) = _; rw [l3, ← l4])
      try walk_at "go"
      rw [e1]
      try walk_at "go"
      intro U hU
      generalize eH3 : upd _ U _ = H3
      have SH3 := newS eH3 hU
      have oU := newO eH3
      have hD3 := SH3 _ _ hD2
      try walk_at "go"
      exact ⟨⟨as ++ [U], but_same hD (S2.trans SH3) But.upd, by rw [upd_same, List.map_append] <;> rfl, by rw [List.length_append, hl] <;> rfl⟩⟩
    · rintro H2 ⟨as, S2, hD2, hl⟩
      try walk_at "go"
      intro T hT
      generalize eH3 : upd _ T _ = H3
      have SH3 := newS eH3 hT
      have oT := newO eH3
      exact q1 T _ (S1.trans (S2.trans SH3))
def spMeetT (K : PySem.W.Frag) (N M : Addr) : Sp := fun vs H Q E => ∃ (u v w : V) (d e f : PyData) (p : Addr), vs = [u, v, w] ∧ Th K p H u d ∧ Th K p H v e ∧ Th K p H w f ∧
  (∀ k h g : Nat, d = .int k → e = .int h → f = .int g → k ≤ 4 → h < 2 ^ k → g < 2 ^ k → h ≠ g → ∀ x, Q x H) ∧
  (isR d 0 4 = false → E (.ref N) none H) ∧ (∀ k : Nat, d = .int k → k ≤ 4 → (isR e 0 (((2 ^ k : Nat) : Int) - 1) && isR f 0 (((2 ^ k : Nat) : Int) - 1)) = false → E (.ref M) none H) ∧ (∀ k h : Nat, d = .int k → k ≤ 4 → e = .int h → f = .int h → h < 2 ^ k → E (.ref M) none H)
theorem k_meeting (D : Df K mg "meeting" s_meeting ["k", "one", "other"]) (D_want_net : DxD P w K mg base 3 "want_net" ["k", "deepest"] [.int 4] (spNetT K (cAt mg "NoNet"))) (D_want_net_all : DxD P w K mg base 3 "want_net" ["k", "deepest"] [] (spNetT K (cAt mg "NoNet"))) (D_want_hand : Dx P w K mg base 3 "want_hand" ["k", "thing"] (spWLT K (cAt mg "NoHand"))) : Dx P w K mg base 4 "meeting" ["k", "one", "other"] (spMeetT K (cAt mg "NoNet") (cAt mg "NoHand")) := by
  refine D.okX fun f fd F => okGX F sc_meeting (fun vs H Q E h => ?_) (fun cdv A outer s H vs Q E hr h => ⟨_, (pss_cons (ps_expr (pe_cXd D_want_net (hr.less (by decide)) (takes_of rfl rfl rfl rfl) rfl (pa_cons (pv 0) pa_nil)))
    (pss_cons (ps_expr (pe_cW D_want_hand (hr.less (by decide)) (takes_of rfl rfl rfl rfl) rfl (pa_cons (pv 0) (pa_cons (pv 1) pa_nil))))
    (pss_cons (ps_expr (pe_cW D_want_hand (hr.less (by decide)) (takes_of rfl rfl rfl rfl) rfl (pa_cons (pv 0) (pa_cons (pv 2) pa_nil))))
    (pss_cons (ps_if (pt_cmpR op_eq (pv 1) (pv 2) (nomark _))
      (pss_one (ps_raise rfl (takes_of rfl rfl rfl rfl) (pmk_own PySem.F.excBase_ValueError B.NoHand_.ex B.NoHand_.mg_ B.NoHand_.kp (raises_own B.NoHand_.bs B.NoHand_.tp) rfl)))
      pss_nil)
    (pss_cons (ps_set (i := 3) sc_meeting.nd rfl (Or.inl rfl) (pe_op op_xor (pv 1) (pv 2)))
    (pss_one (ps_ret (pe_op op_sub (pe_op op_add (pv 0) pe_int) (pe_bits (pe_op op_and (pv 3) (pe_op op_sub pe_int (pv 3)))))))))))), ?_⟩)
  · obtain ⟨u, v, w, d, e, f, p, rfl, _⟩ := h; rfl
  · obtain ⟨u, v, w, d, e, f, p, rfl, hu, hv, hw, q1, q2, q3, q4⟩ := h
    try walk_at "go"
    refine ⟨fun c1 => ?_, q2⟩
    obtain ⟨k, rfl, k4⟩ := net_inv c1
    cases hu.int_inv
    try walk_at "go"
    refine ⟨fun c2 => ?_, fun c2 => q3 k rfl k4 (by rw [c2, Bool.false_and])⟩
    obtain ⟨h, rfl, hh⟩ := line_inv c2
    cases hv.int_inv
    try walk_at "go"
    refine ⟨fun c3 => ?_, fun c3 => q3 k rfl k4 (by rw [c3, Bool.and_false])⟩
    obtain ⟨g, rfl, hg⟩ := line_inv c3
    cases hw.int_inv
    have e1 := bx (by omega : k < 5) hh hg
    try walk_at "go"
    refine ite2 (fun c => ?_) (fun c => ?_)
    · have c := V.int.inj (of_decide_eq_true c)
      obtain rfl : h = g := by omega
      exact q4 k h rfl k4 rfl rfl hh
    have hn : h ≠ g := fun z => c (by rw [z]; exact decide_eq_true rfl)
    try walk_at "go"
    exact q1 k h g rfl rfl rfl k4 hh hg hn _
theorem k_parting (D : Df K mg "parting" s_parting ["k", "one", "other"]) (D_want_net : DxD P w K mg base 3 "want_net" ["k", "deepest"] [.int 4] (spNetT K (cAt mg "NoNet"))) (D_want_net_all : DxD P w K mg base 3 "want_net" ["k", "deepest"] [] (spNetT K (cAt mg "NoNet"))) (D_want_side : Dx P w K mg base 3 "want_side" ["k", "thing"] (spWLT K (cAt mg "NoSide"))) : Dx P w K mg base 4 "parting" ["k", "one", "other"] (spMeetT K (cAt mg "NoNet") (cAt mg "NoSide")) := by
  refine D.okX fun f fd F => okGX F sc_parting (fun vs H Q E h => ?_) (fun cdv A outer s H vs Q E hr h => ⟨_, (pss_cons (ps_expr (pe_cXd D_want_net (hr.less (by decide)) (takes_of rfl rfl rfl rfl) rfl (pa_cons (pv 0) pa_nil)))
    (pss_cons (ps_expr (pe_cW D_want_side (hr.less (by decide)) (takes_of rfl rfl rfl rfl) rfl (pa_cons (pv 0) (pa_cons (pv 1) pa_nil))))
    (pss_cons (ps_expr (pe_cW D_want_side (hr.less (by decide)) (takes_of rfl rfl rfl rfl) rfl (pa_cons (pv 0) (pa_cons (pv 2) pa_nil))))
    (pss_cons (ps_if (pt_cmpR op_eq (pv 1) (pv 2) (nomark _))
      (pss_one (ps_raise rfl (takes_of rfl rfl rfl rfl) (pmk_own PySem.F.excBase_ValueError B.NoSide_.ex B.NoSide_.mg_ B.NoSide_.kp (raises_own B.NoSide_.bs B.NoSide_.tp) rfl)))
      pss_nil)
    (pss_one (ps_ret (pe_op op_sub (pe_op op_add (pv 0) pe_int) (pe_bits (pe_op op_xor (pv 1) (pv 2)))))))))), ?_⟩)
  · obtain ⟨u, v, w, d, e, f, p, rfl, _⟩ := h; rfl
  · obtain ⟨u, v, w, d, e, f, p, rfl, hu, hv, hw, q1, q2, q3, q4⟩ := h
    try walk_at "go"
    refine ⟨fun c1 => ?_, q2⟩
    obtain ⟨k, rfl, k4⟩ := net_inv c1
    cases hu.int_inv
    try walk_at "go"
    refine ⟨fun c2 => ?_, fun c2 => q3 k rfl k4 (by rw [c2, Bool.false_and])⟩
    obtain ⟨h, rfl, hh⟩ := line_inv c2
    cases hv.int_inv
    try walk_at "go"
    refine ⟨fun c3 => ?_, fun c3 => q3 k rfl k4 (by rw [c3, Bool.and_false])⟩
    obtain ⟨g, rfl, hg⟩ := line_inv c3
    cases hw.int_inv
    have e1 := bx (by omega : k < 5) hh hg
    try walk_at "go"
    refine ite2 (fun c => ?_) (fun c => ?_)
    · have c := V.int.inj (of_decide_eq_true c)
      obtain rfl : h = g := by omega
      exact q4 k h rfl k4 rfl rfl hh
    have hn : h ≠ g := fun z => c (by rw [z]; exact decide_eq_true rfl)
    try walk_at "go"
    exact q1 k h g rfl rfl rfl k4 hh hg hn _
/-! SPLIT -/
def isT2 : PyData → Bool
  | .tuple [_, _] => true
  | _ => false
def pr1 : PyData → PyData
  | .tuple [a, _] => a
  | _ => .none
def pr2 : PyData → PyData
  | .tuple [_, b] => b
  | _ => .none
def psD : PyData → List PyData
  | .tuple ds => ds
  | _ => []
def isPs : PyData → Bool
  | .tuple ds => ds.all isT2
  | _ => false
/-- a hand's or a side's number -/
def isL (k : Nat) (d : PyData) : Bool := isR d 0 (((2 ^ k : Nat) : Int) - 1)
def okH (k : Nat) (e : PyData) : Bool := isPs e && (psD e).all fun d => isL k (pr1 d)
def okS (k : Nat) (e : PyData) : Bool := (psD e).all fun d => isL k (pr2 d)
omit B in
theorem isPs_no {d : PyData} (h : isTu d = false) : isPs d = false := by cases d <;> first | rfl | cases h
omit B in
theorem isT2_no {d : PyData} (h : isTu d = false) : isT2 d = false := by cases d <;> first | rfl | cases h
omit B in
theorem isT2_len {ds : List PyData} : isT2 (.tuple ds) = decide (ds.length = 2) := by
  match ds with
  | [] => rfl
  | [_] => rfl
  | [_, _] => rfl
  | _ :: _ :: _ :: _ => exact (decide_eq_false (by simp)).symm
omit B in
theorem t2_inv {K : PySem.W.Frag} {p : Addr} {H : Hp} {v : V} {d : PyData} (h : Th K p H v d) (e : isT2 d = true) : ∃ (a : Addr) (x y : V), v = .ref a ∧ H a = some (.tup [x, y]) ∧ Th K p H x (pr1 d) ∧ Th K p H y (pr2 d) := by
  cases ed : isTu d with
  | false => rw [isT2_no ed] at e; cases e
  | true =>
    obtain ⟨ds, rfl⟩ := isTu_inv ed
    obtain ⟨a, tr, rfl, rfl, ha, htr⟩ := h.tup_inv
    match tr, ha, htr, e with
    | [], _, _, e => cases e
    | [_], _, _, e => cases e
    | _ :: _ :: _ :: _, _, _, e => cases e
    | [t1, t2], ha, htr, _ => exact ⟨a, t1.1, t2.1, rfl, ha, htr _ List.mem_cons_self, htr _ (List.mem_cons_of_mem _ List.mem_cons_self)⟩
omit B in
theorem snd_all {tr : List (V × PyData)} {f : PyData → Bool} (h : (tr.map fun t => t.2).all f = true) : ∀ t ∈ tr, f t.2 = true := fun t ht => List.all_eq_true.mp h _ (List.mem_map_of_mem ht)
omit B in
theorem snd_no {tr : List (V × PyData)} {f : PyData → Bool} {i : Nat} {t : V × PyData} (h : tr[i]? = some t) (e : f t.2 = false) : (tr.map fun t => t.2).all f = false := by
  rw [Bool.eq_false_iff]
  intro z
  rw [snd_all z _ (List.mem_of_getElem? h)] at e
  cases e
omit B in
theorem snd_done {tr : List (V × PyData)} {f : PyData → Bool} (h : ∀ (i : Nat) (t : V × PyData), tr[i]? = some t → f t.2 = true) : (tr.map fun t => t.2).all f = true := List.all_eq_true.mpr fun d hd => by
  obtain ⟨t, ht, rfl⟩ := List.mem_map.mp hd
  obtain ⟨i, hi⟩ := List.getElem?_of_mem ht
  exact h i t hi
def spWPT (K : PySem.W.Frag) (M S : Addr) : Sp := fun vs H Q E => ∃ (v : V) (e : PyData) (p : Addr) (k : Nat), vs = [.int k, v] ∧ k ≤ 4 ∧ Th K p H v e ∧ (psD e).length ≤ 100 ∧
  (okH k e = true → okS k e = true → ∀ H', Same H H' → Q .non H') ∧ (okH k e = false → ∀ H', Same H H' → E (.ref M) none H') ∧ (okH k e = true → okS k e = false → ∀ H', Same H H' → E (.ref S) none H')
theorem k_want_pairs (D : Df K mg "want_pairs" s_want_pairs ["k", "pairs"]) (D_want_hand : Dx P w K mg base 3 "want_hand" ["k", "thing"] (spWLT K (cAt mg "NoHand"))) (D_want_side : Dx P w K mg base 3 "want_side" ["k", "thing"] (spWLT K (cAt mg "NoSide"))) : Dx P w K mg base 4 "want_pairs" ["k", "pairs"] (spWPT K (cAt mg "NoHand") (cAt mg "NoSide")) := by
  refine D.okX fun f fd F => okGX F sc_want_pairs (fun vs H Q E h => ?_) (fun cdv A outer s H vs Q E hr h => ⟨_, (pss_cons (ps_if (PW.pt (pw_or (pt_not (pt_val (pe_callB (kk (K := K) (F := rIsi) (P := CallR _ _) call_isi) (by rfl) B.isinstance_ (by decide +kernel) (pa_cons (pv 1) (pa_cons (pe_bltn (v := .ty "tuple") (u := .type "tuple") (by rfl) B.tuple_ (by decide +kernel) rfl) pa_nil))))) (pw_or1 (pt_not (pt_val (pe_callB (kk (K := K) (F := rAll) (P := CallR _ _) (cr_all rfl)) (by rfl) B.all_ (by decide +kernel) (pa_cons (pe_lc (own := [("one", 4)]) (g := gName 4) (tt := tYes) rfl sc_want_pairs.nd (kk (K := K) (F := fun K => iTup K _) (P := PI _ _ _) (pi_tup (pv 1))) (blkOk_by (own := [("one", 4)]) (N := ["k", "pairs", "hand", "goal", "one"]) (sc := defScope s_want_pairs) (by decide +kernel)) (fun _ _ _ _ _ => (pg_name (i := 4) sc_want_pairs.nd rfl (Or.inl rfl))) (fun _ _ _ _ _ => pts_nil) (fun _ _ _ _ _ => (pe_and (pe_callB (kk (K := K) (F := rIsi) (P := CallR _ _) call_isi) (by rfl) B.isinstance_ (by decide +kernel) (pa_cons (pv 4) (pa_cons (pe_bltn (v := .ty "tuple") (u := .type "tuple") (by rfl) B.tuple_ (by decide +kernel) rfl) pa_nil))) (pe_one (pe_cmpR op_eq (pe_callB (lenK (K := K)) (by rfl) B.len_ (by decide +kernel) (pa_cons (pv 4) pa_nil)) pe_int (nomark _)))))) pa_nil)))))))
      (pss_one (ps_raise rfl (takes_of rfl rfl rfl rfl) (pmk_own PySem.F.excBase_ValueError B.NoHand_.ex B.NoHand_.mg_ B.NoHand_.kp (raises_own B.NoHand_.bs B.NoHand_.tp) rfl)))
      pss_nil)
    (pss_cons (ps_for (passes_of rfl) rfl (kk (K := K) (F := fun K => iTup K _) (P := PI _ _ _) (pi_tup (pv 1))) (kk (K := K) (F := fun K => gTup K 2 _) (P := PG _ _) (pg_tup rfl (pgs_cons (pg_name (i := 2) sc_want_pairs.nd rfl (Or.inl rfl)) (pgs_cons (pg_name (i := 3) sc_want_pairs.nd rfl (Or.inl rfl)) pgs_nil))))
      (pss_one (ps_expr (pe_cW D_want_hand (hr.less (by decide)) (takes_of rfl rfl rfl rfl) rfl (pa_cons (pv 0) (pa_cons (pv 2) pa_nil))))))
    (pss_one (ps_for (passes_of rfl) rfl (kk (K := K) (F := fun K => iTup K _) (P := PI _ _ _) (pi_tup (pv 1))) (kk (K := K) (F := fun K => gTup K 2 _) (P := PG _ _) (pg_tup rfl (pgs_cons (pg_name (i := 2) sc_want_pairs.nd rfl (Or.inl rfl)) (pgs_cons (pg_name (i := 3) sc_want_pairs.nd rfl (Or.inl rfl)) pgs_nil))))
     (pss_one (ps_expr (pe_cW D_want_side (hr.less (by decide)) (takes_of rfl rfl rfl rfl) rfl (pa_cons (pv 0) (pa_cons (pv 3) pa_nil))))))))), ?_⟩)
  · obtain ⟨v, e, p, k, rfl, _⟩ := h; rfl
  · obtain ⟨v, e, p, k, rfl, hk, hd, hl, q1, q2, q3⟩ := h
    have ty := hd.ty
    have kt := kit_tu (K := K) e
    cases ed : isTu e with
    | false =>
      rw [ed] at kt
      try walk_at "go"
      exact q2 (by unfold okH; rw [isPs_no ed, Bool.false_and]) H (Same.refl _)
    | true =>
      rw [ed] at kt
      obtain ⟨ds, rfl⟩ := isTu_inv ed
      obtain ⟨a, tr, rfl, rfl, ha, htr⟩ := hd.tup_inv
      have lm : (tr.map fun t => t.1).length = tr.length := List.length_map _
      have l100 : tr.length ≤ 100 := by
        have : (tr.map fun t => t.2).length ≤ 100 := hl
        rw [List.length_map] at this; exact this
      try walk_at "go"
      intro D hD
      refine lc_tup (K := K) (a := a) (xs := tr.map fun t => t.1) (fun i H' => Kept (Same H H' ∧ H' D = some (.lst (((tr.take i).map fun t => isT2 t.2).map V.bl)))) ⟨⟨same_new hD _, upd_same⟩⟩ (fun i H' _ h => SqT.of (h.ex.1 _ _ ha)) ?_ ?_
      · rintro i x H' hx ⟨S1, hD1⟩
        rw [List.getElem?_map] at hx
        obtain ⟨⟨tv, td⟩, ht, rfl⟩ := Option.map_eq_some_iff.mp hx
        have il := (List.getElem?_eq_some_iff.mp ht).1
        have th : Th K p H' tv td := (htr _ (List.mem_of_getElem? ht)).same S1
        have li : (((tr.take i).map fun t => isT2 t.2).map V.bl).length ≤ 100 := by rw [List.length_map, List.length_map, List.length_take]; omega
        have tk : (((tr.take i).map fun t => isT2 t.2).map V.bl) ++ [.bl (isT2 td)] = ((tr.take (i + 1)).map fun t => isT2 t.2).map V.bl := by rw [List.take_succ, ht, List.map_append, List.map_append] <;> rfl
        have ty1 := th.ty
        have kt1 := kit_tu (K := K) td
        cases e1 : isTu td with
        | false =>
          rw [e1] at kt1
          rw [isT2_no e1] at tk
          try walk_at "go"
          exact ⟨⟨but_same hD S1 But.upd, by rw [upd_same, tk]⟩⟩
        | true =>
          rw [e1] at kt1
          obtain ⟨ds1, rfl⟩ := isTu_inv e1
          obtain ⟨b, br, rfl, rfl, hb, _⟩ := th.tup_inv
          rw [isT2_len, List.length_map] at tk
          have lb : (br.map fun t => t.1).length = br.length := List.length_map _
          have e2 : decide (V.int ((br.map fun t => t.1).length : Nat) = V.int 2) = decide (br.length = 2) := by
            rw [lb]
            by_cases c : br.length = 2
            · rw [decide_eq_true (by rw [c] <;> rfl), decide_eq_true c]
            · rw [decide_eq_false fun z => c (by have := V.int.inj z; omega), decide_eq_false c]
          try walk_at "go"
          rw [e2]
          exact ⟨⟨but_same hD S1 But.upd, by rw [upd_same, tk]⟩⟩
      rintro H2 ⟨S2, hD2⟩
      rw [lm, List.take_length] at hD2
      have ea : ((tr.map fun t => isT2 t.2).all id) = isPs (.tuple (tr.map fun t => t.2)) := by
        show _ = (tr.map fun t => t.2).all isT2
        rw [List.all_map, List.all_map] <;> rfl
      try walk_at "go"
      rw [ea]
      cases eP : isPs (.tuple (tr.map fun t => t.2)) with
      | false =>
        refine ifT rfl ?_
        exact q2 (by unfold okH; rw [eP, Bool.false_and]) H2 S2
      | true =>
      refine ifF rfl ?_
      have all2 : ∀ t ∈ tr, isT2 t.2 = true := snd_all eP
      try walk_at "go"
      refine for_tup (K := K) (a := a) (xs := tr.map fun t => t.1) (fun i σ H' => Kept (∃ w2 w3 w4, σ = [some (.int (k : Nat)), some (.ref a), w2, w3, w4] ∧ Same H H' ∧ ∀ (j : Nat) (t : V × PyData), j < i → tr[j]? = some t → isL k (pr1 t.2) = true)) ⟨⟨_, _, _, rfl, S2, fun j t h => absurd h (Nat.not_lt_zero _)⟩⟩ (fun i σ H' _ h => by obtain ⟨_, _, _, _, S, _⟩ := h.ex; exact SqT.of (S _ _ ha)) ?_ ?_
      · rintro i x σ H3 hx ⟨w2, w3, w4, rfl, S3, hi⟩
        rw [List.getElem?_map] at hx
        obtain ⟨⟨tv, td⟩, ht, rfl⟩ := Option.map_eq_some_iff.mp hx
        obtain ⟨b, x, y, rfl, hb, h1, h2⟩ := t2_inv (htr _ (List.mem_of_getElem? ht)) (all2 _ (List.mem_of_getElem? ht))
        have hb3 := S3 _ _ hb
        have h13 := h1.same S3
        try walk_at "go"
        refine ⟨fun c => ?_, fun c => ?_⟩
        · try walk_at "go"
          refine ⟨⟨_, _, _, rfl, S3, fun j t hj hjt => ?_⟩⟩
          rcases Nat.lt_succ_iff_lt_or_eq.mp hj with hj | rfl
          · exact hi j t hj hjt
          · rw [ht] at hjt
            cases hjt
            exact c
        · exact q2 (by unfold okH; rw [Bool.and_eq_false_iff]; exact .inr (snd_no (f := fun d => isL k (pr1 d)) ht c)) _ S3
      rintro σ H3 ⟨w2, w3, w4, rfl, S3, hH⟩
      have oH : okH k (.tuple (tr.map fun t => t.2)) = true := by
        unfold okH
        rw [eP, Bool.true_and]
        exact snd_done (f := fun d => isL k (pr1 d)) fun i t ht => hH i t (by have := (List.getElem?_eq_some_iff.mp ht).1; rw [lm]; exact this) ht
      try walk_at "go"
      refine for_tup (K := K) (a := a) (xs := tr.map fun t => t.1) (fun i σ H' => Kept (∃ w2 w3 w4, σ = [some (.int (k : Nat)), some (.ref a), w2, w3, w4] ∧ Same H H' ∧ ∀ (j : Nat) (t : V × PyData), j < i → tr[j]? = some t → isL k (pr2 t.2) = true)) ⟨⟨_, _, _, rfl, S3, fun j t h => absurd h (Nat.not_lt_zero _)⟩⟩ (fun i σ H' _ h => by obtain ⟨_, _, _, _, S, _⟩ := h.ex; exact SqT.of (S _ _ ha)) ?_ ?_
      · rintro i x σ H4 hx ⟨w2, w3, w4, rfl, S4, hi⟩
        rw [List.getElem?_map] at hx
        obtain ⟨⟨tv, td⟩, ht, rfl⟩ := Option.map_eq_some_iff.mp hx
        obtain ⟨b, x, y, rfl, hb, h1, h2⟩ := t2_inv (htr _ (List.mem_of_getElem? ht)) (all2 _ (List.mem_of_getElem? ht))
        have hb4 := S4 _ _ hb
        have h24 := h2.same S4
        try walk_at "go"
        refine ⟨fun c => ?_, fun c => ?_⟩
        · try walk_at "go"
          refine ⟨⟨_, _, _, rfl, S4, fun j t hj hjt => ?_⟩⟩
          rcases Nat.lt_succ_iff_lt_or_eq.mp hj with hj | rfl
          · exact hi j t hj hjt
          · rw [ht] at hjt
            cases hjt
            exact c
        · exact q3 oH (snd_no (f := fun d => isL k (pr2 d)) ht c) _ S4
      rintro σ H4 ⟨w2, w3, w4, rfl, S4, hS⟩
      exact q1 oH (snd_done (f := fun d => isL k (pr2 d)) fun i t ht => hS i t (by have := (List.getElem?_eq_some_iff.mp ht).1; rw [lm]; exact this) ht) _ S4
/-! SPLIT -/
omit B in
theorem low_lns {k lv : Nat} {p : Nat × Nat} (hk : k ≤ 4) (h : p.1 < 2 ^ k ∧ p.2 < 2 ^ k) (hl : lv < k + 1) : low k p.1 p.2 lv = lline k p.1 p.2 lv := low_is k (by omega) _ h.1 _ h.2 _ hl
/-- a row of pairs -/
structure PrT (H : Hp) (k : Nat) (T : Addr) (ts : List Addr) (ps : List (Nat × Nat)) : Prop where
  tup : H T = some (.tup (ts.map V.ref))
  pts : PtsAt H ts ps
  rng : ∀ p ∈ ps, p.1 < 2 ^ k ∧ p.2 < 2 ^ k
  len : ps.length ≤ 100
omit B in
theorem PrT.same {H H' : Hp} {k : Nat} {T : Addr} {ts : List Addr} {ps : List (Nat × Nat)} (a : PrT H k T ts ps) (e : Same H H') : PrT H' k T ts ps := ⟨e _ _ a.tup, a.pts.same e, a.rng, a.len⟩
omit B in
theorem PrT.get {H H' : Hp} {k : Nat} {T : Addr} {ts : List Addr} {ps : List (Nat × Nat)} {i : Nat} {x : V} (a : PrT H k T ts ps) (e : Same H H') (h : (ts.map V.ref)[i]? = some x) : ∃ (t : Addr) (p : Nat × Nat), x = .ref t ∧ ps[i]? = some p ∧ H' t = some (.tup [.int (p.1 : Nat), .int (p.2 : Nat)]) ∧ p.1 < 2 ^ k ∧ p.2 < 2 ^ k := by
  rw [List.getElem?_map] at h
  obtain ⟨t, ht, rfl⟩ := Option.map_eq_some_iff.mp h
  have hi : i < ps.length := by rw [← a.pts.1]; exact (List.getElem?_eq_some_iff.mp ht).1
  have e1 : ps[i]? = some ps[i] := List.getElem?_eq_getElem hi
  exact ⟨t, ps[i], rfl, e1, e _ _ (a.pts.2 i t _ ht e1), a.rng _ (List.getElem_mem hi)⟩
omit B in
theorem PrT.ln {H : Hp} {k : Nat} {T : Addr} {ts : List Addr} {ps : List (Nat × Nat)} (a : PrT H k T ts ps) : (ts.map V.ref).length = ps.length := by rw [List.length_map, a.pts.1]
omit B in
theorem eqv_nil {ns : List Int} : PyData.eqv (.list (ns.map PyData.int)) (.list []) = ns.isEmpty := by
  cases ns <;> rfl
def rAns (k : Nat) (ps : List (Nat × Nat)) (H : Hp) (Q : VK) : Prop := ∀ r v H', Fst (lns k ps) k r → Same H H' → (match r with | none => v = .non | some (lv, x) => ∃ U, v = .ref U ∧ H' U = some (.tup [.int (lv : Nat), .int x])) → Q v H'
def spShared (K : PySem.W.Frag) : Sp := fun vs H Q _ => ∃ (k : Nat) (T : Addr) (ts : List Addr) (ps : List (Nat × Nat)), vs = [.int k, .ref T] ∧ k ≤ 4 ∧ PrT H k T ts ps ∧ rAns k ps H Q
theorem k_shared_line (D : Df K mg "shared_line" s_shared_line ["k", "pairs"]) (D_line_on_way : Dn P w K mg base 1 "line_on_way" ["k", "hand", "goal", "level"] spLow) : Dn P w K mg base 2 "shared_line" ["k", "pairs"] (spShared K) := by
  refine D.ok fun f fd F => okG0 F sc_shared_line (fun vs H Q E h => ?_) (fun cdv A outer s H vs Q E hr h => ⟨_, (pss_cons (ps_for PassesOwn.never rfl (pi_range1 (by rfl) B.range_ (pa_cons (pe_op op_add (pv 0) pe_int) pa_nil)) (pg_name (i := 2) sc_shared_line.nd rfl (Or.inr rfl))
      (pss_cons (ps_set (i := 3) sc_shared_line.nd rfl (Or.inr rfl) (pe_lc (own := [("hand", 5), ("goal", 6)]) (tt := tYes) rfl sc_shared_line.nd (kk (K := K) (F := fun K => iTup K _) (P := PI _ _ _) (pi_tup (pv 1))) (blkOk_by (own := [("hand", 5), ("goal", 6)]) (N := ["k", "pairs", "level", "lines", "found", "hand", "goal", "line"]) (sc := defScope s_shared_line) (by decide +kernel)) (fun _ _ _ _ _ => (kk (K := K) (F := fun K => gTup K 2 _) (P := PG _ _) (pg_tup rfl (pgs_cons (pg_name (i := 5) sc_shared_line.nd rfl (Or.inl rfl)) (pgs_cons (pg_name (i := 6) sc_shared_line.nd rfl (Or.inl rfl)) pgs_nil))))) (fun _ _ _ _ _ => pts_nil) (fun _ _ _ _ _ => (pe_cD D_line_on_way (hr.less (by decide)) rfl (pa_cons (pv 0) (pa_cons (pv 5) (pa_cons (pv 6) (pa_cons (pv 2) pa_nil))))))))
      (pss_cons (ps_setLc (i := 4) (own := [("line", 7)]) (g := gName 7) rfl sc_shared_line.nd rfl rfl (sw_true rfl rfl rfl (by decide +kernel)) (kk (K := K) (F := fun K => iList K _) (P := PI _ _ _) (pi_list (pv 3))) (blkOk_by (own := [("line", 7)]) (N := ["k", "pairs", "level", "lines", "found", "hand", "goal", "line"]) (sc := defScope s_shared_line) (by decide +kernel)) (fun _ _ _ _ _ => (pg_name (i := 7) sc_shared_line.nd rfl (Or.inl rfl))) (fun _ _ _ _ _ => (pts_one (pt_cmpR op_gt (kk (K := K) (F := fun K => tBM K "list" _ _ _) (P := PE _ _) (pe_bm PySem.F.plainAttrs_list PySem.F.slot_list_count PySem.F.type_list_count mt_lcount (pv 3) (pa_cons (pv 7) pa_nil))) pe_int (nomark _)))) (fun _ _ _ _ _ => (pv 7)))
      (pss_one (ps_if (pt_cmpR (kk (K := K) (F := rNeD) (P := OpR _ _) (op_neD hr.units)) (pv 4) (pe_lst pa_nil) (nomark _))
       (pss_one (ps_ret (pe_tup (pa_cons (pv 2) (pa_cons (pe_callB (kk (K := K) (F := rMin) (P := CallR _ _) (cr_min rfl)) (by rfl) B.min_ (by decide +kernel) (pa_cons (pv 4) pa_nil)) pa_nil)))))
       pss_nil)))))
    (pss_one (ps_ret pe_non))), ?_⟩)
  · obtain ⟨k, T, ts, ps, rfl, _⟩ := h; rfl
  · obtain ⟨k, T, ts, ps, rfl, hk, hP, q⟩ := h
    have hl := hP.ln
    have hle := hP.len
    try walk_at "go"
    have e5 : (((k : Nat) : Int) + 1).toNat = k + 1 := by omega
    rw [e5]
    refine for_range (lo := 0) (n := k + 1) (fun i σ H' => ∃ w2 w3 w4 w5 w6 w7, σ = [some (.int (k : Nat)), some (.ref T), w2, w3, w4, w5, w6, w7] ∧ Same H H' ∧ ∀ lv, lv < i → ∀ x, ¬ Rp (lns k ps lv) x) ⟨_, _, _, _, _, _, rfl, fun _ _ h => h, fun lv h => by omega⟩ ?_ ?_
    · rintro i σ H1 hi ⟨w2, w3, w4, w5, w6, w7, rfl, S1, no1⟩
      rw [Int.zero_add]
      have hT1 := S1 _ _ hP.tup
      try walk_at "go"
      intro D hD
      refine lc_tup (K := K) (a := T) (xs := ts.map V.ref) (fun j H' => Same H1 H' ∧ H' D = some (.lst ((lns k (ps.take j) i).map V.int))) ⟨same_new hD _, upd_same⟩ (fun j H' _ h => SqT.of (h.1 _ _ hT1)) ?_ ?_
      · rintro j x H' hx ⟨S2, hD2⟩
        obtain ⟨t, p, rfl, ep, ht, h1, h2⟩ := hP.get (S1.trans S2) hx
        have hj : j < 101 := by have := (List.getElem?_eq_some_iff.mp ep).1; omega
        have el := low_lns (k := k) (lv := i) (p := p) hk ⟨h1, h2⟩ hi
        have et : lns k (ps.take (j + 1)) i = lns k (ps.take j) i ++ [lline k p.1 p.2 i] := by unfold lns; rw [List.take_succ, ep, List.map_append] <;> rfl
        have ll : ((lns k (ps.take j) i).map V.int).length ≤ 200 := by unfold lns; rw [List.length_map, List.length_map, List.length_take]; omega
        try walk_at "go"
        refine ⟨but_same hD S2 But.upd, ?_⟩
        rw [upd_same, et, List.map_append, el] <;> rfl
      rintro H2 ⟨S2, hD2⟩
      rw [hl, List.take_length] at hD2
      try walk_at "go"
      intro E hE
      have lL : (lns k ps i).length ≤ 100 := by unfold lns; rw [List.length_map]; exact hle
      generalize hL : lns k ps i = L at hD2 lL
      refine lc_list (K := K) (a := D) (xs := L.map V.int) (fun j H' => Same H2 H' ∧ H' E = some (.lst (((L.take j).filter fun x => decide (1 < L.count x)).map V.int))) ⟨same_new hE _, upd_same⟩ (fun j H' _ h => SqL.of (h.1 _ _ hD2)) ?_ ?_
      · rintro j x H' hx ⟨S3, hE3⟩
        rw [List.getElem?_map] at hx
        obtain ⟨z, hz, rfl⟩ := Option.map_eq_some_iff.mp hx
        have et : L.take (j + 1) = L.take j ++ [z] := by rw [List.take_succ, hz] <;> rfl
        have ll : (((L.take j).filter fun x => decide (1 < L.count x)).map V.int).length ≤ 200 := by
          rw [List.length_map]
          refine Nat.le_trans (List.length_filter_le _ _) ?_
          rw [List.length_take]; omega
        try walk_at "go"
        refine ite2 (fun c => ?_) (fun c => ?_)
        · have c2 : 1 < L.count z := by have := of_decide_eq_true c; omega
          try walk_at "go"
          refine ⟨but_same hE S3 But.upd, ?_⟩
          rw [upd_same, et, List.filter_append, List.map_append, List.filter_cons_of_pos (by rw [decide_eq_true c2]), List.filter_nil] <;> rfl
        · have c2 : ¬ 1 < L.count z := fun z => c (decide_eq_true (by omega))
          refine ⟨S3, ?_⟩
          rw [hE3, et, List.filter_append, List.filter_cons_of_neg (by simpa using c2), List.filter_nil, List.append_nil]
      rintro H3 ⟨S3, hE3⟩
      rw [List.length_map, List.take_length] at hE3
      have rep : ∀ x, x ∈ L.filter (fun x => decide (1 < L.count x)) ↔ Rp L x := by
        intro x
        rw [List.mem_filter, decide_eq_true_iff]
        exact ⟨fun h => h.2, fun h => ⟨List.count_pos_iff.mp (by unfold Rp at h; omega), h⟩⟩
      generalize L.filter (fun x => decide (1 < L.count x)) = F at hE3 rep
      have S13 : Same H H3 := S1.trans (S2.trans S3)
      try walk_at "go"
      intro N hN
      generalize eH4 : upd _ N _ = H4
      have SH4 := newS eH4 hN
      have oN := newO eH4
      try walk_at "go"
      rw [eqv_nil]
      cases F with
      | nil =>
        try walk_at "go"
        refine ⟨S13.trans SH4, fun lv hlv x hx => ?_⟩
        rcases Nat.lt_or_ge lv i with c | c
        · exact no1 lv c x hx
        · obtain rfl : lv = i := by omega
          rw [hL] at hx
          exact absurd ((rep x).mpr hx) List.not_mem_nil
      | cons f F =>
        try walk_at "go"
        intro m hm hle2
        try walk_at "go"
        intro U hU
        generalize eH5 : upd _ U _ = H5
        have SH5 := newS eH5 hU
        have oU := newO eH5
        refine q (some (i, m)) _ _ ⟨by omega, by rw [hL]; exact (rep m).mp hm, fun y hy => ?_, no1⟩ (S13.trans (SH4.trans SH5)) ⟨U, rfl, oU⟩
        rw [hL] at hy
        exact hle2 y ((rep y).mpr hy)
    · rintro σ H1 ⟨w2, w3, w4, w5, w6, w7, rfl, S1, no1⟩
      exact q none _ _ (fun lv hl => no1 lv (by omega)) S1 rfl
omit B in
theorem none_back {H H' : Hp} {a : Addr} (S : Same H H') (h : H' a = none) : H a = none := by
  cases e : H a with
  | none => rfl
  | some o =>
    rw [S _ _ e] at h
    cases h
omit B in
theorem flat_rep {k : Nat} : (List.replicate (2 ^ (k - 1)) [V.int 0]).flatten = (row k (fun _ _ => 0) 0).map V.int := by
  unfold row
  rw [List.map_map]
  have : ∀ n, (List.replicate n [V.int 0]).flatten = (List.range n).map (V.int ∘ (fun _ => (0 : Int))) := by
    intro n
    induction n with
    | zero => rfl
    | succ n ih => rw [List.replicate_succ', List.flatten_append, ih, List.range_succ, List.map_append] <;> rfl
  exact this _
omit B in
theorem inj_snoc {rs : List Addr} {R : Addr} (inj : ∀ (i j : Nat) (a : Addr), rs[i]? = some a → rs[j]? = some a → i = j) (n : ∀ a ∈ rs, a ≠ R) : ∀ (i j : Nat) (a : Addr), (rs ++ [R])[i]? = some a → (rs ++ [R])[j]? = some a → i = j := by
  have key : ∀ (i : Nat) (a : Addr), (rs ++ [R])[i]? = some a → (i < rs.length ∧ rs[i]? = some a) ∨ (i = rs.length ∧ a = R) := by
    intro i a h
    by_cases c : i < rs.length
    · rw [List.getElem?_append_left c] at h
      exact .inl ⟨c, h⟩
    · rw [List.getElem?_append_right (by omega)] at h
      have := (List.getElem?_eq_some_iff.mp h).1
      have h5 : [R].length = 1 := rfl
      have e : i = rs.length := by omega
      subst e
      rw [Nat.sub_self] at h
      exact .inr ⟨rfl, (Option.some.inj h).symm⟩
  intro i j a h1 h2
  rcases key i a h1 with ⟨_, c⟩ | ⟨c, c'⟩ <;> rcases key j a h2 with ⟨_, d⟩ | ⟨d, d'⟩
  · exact inj i j a c d
  · exact absurd d' (n a (List.mem_of_getElem? c))
  · exact absurd c' (n a (List.mem_of_getElem? d))
  · omega
def spFig : Sp := fun vs H Q _ => ∃ k n st : Nat, vs = [.int k, .int n, .int st] ∧ k ≤ 4 ∧ st ≤ k ∧ n < 2 ^ k ∧ Q (.int (fg k n st)) H
theorem k_figure_in (D : Df K mg "figure_in" s_figure_in ["k", "line", "stage"]) : Dn P w K mg base 1 "figure_in" ["k", "line", "stage"] spFig := by
  refine D.ok fun f fd F => okG0 F sc_figure_in (fun vs H Q E h => ?_) (fun cdv A outer s H vs Q E hr h => ⟨_, (pss_one (ps_ret (pe_op op_and (pe_op op_shr (pv 1) (pe_op op_sub (pv 0) (pv 2))) pe_int))), ?_⟩)
  · obtain ⟨k, n, st, rfl, _⟩ := h; rfl
  · obtain ⟨k, n, st, rfl, h1, h2, h3, q⟩ := h
    try walk_at "go"
    exact q
def spPlain : Sp := fun vs H Q _ => ∃ k : Nat, vs = [.int k] ∧ k ≤ 4 ∧ ∀ D rs H', Same H H' → H D = none → H' D = some (.lst (rs.map V.ref)) → (∀ a ∈ rs, H a = none) → RowsAt H' rs k (fun _ _ => 0) → Q (.ref D) H'
theorem k_plain_rows (D : Df K mg "plain_rows" s_plain_rows ["k"]) : Dn P w K mg base 1 "plain_rows" ["k"] spPlain := by
  refine D.ok fun f fd F => okG0 F sc_plain_rows (fun vs H Q E h => ?_) (fun cdv A outer s H vs Q E hr h => ⟨_, (pss_one (ps_ret (pe_lc (own := [("stage", 1)]) (g := gName 1) (tt := tYes) rfl sc_plain_rows.nd (pi_range1 (by rfl) B.range_ (pa_cons (pv 0) pa_nil)) (blkOk_by (own := [("stage", 1)]) (N := ["k", "stage"]) (sc := defScope s_plain_rows) (by decide +kernel)) (fun _ _ _ _ _ => (pg_name (i := 1) sc_plain_rows.nd rfl (Or.inl rfl))) (fun _ _ _ _ _ => pts_nil) (fun _ _ _ _ _ => (pe_op op_rep (pe_lst (pa_cons pe_int pa_nil)) (pe_op op_shlW pe_int (pe_op op_sub (pv 0) pe_int))))))), ?_⟩)
  · obtain ⟨k, rfl, _⟩ := h; rfl
  · obtain ⟨k, rfl, hk, q⟩ := h
    try walk_at "go"
    intro D hD
    have e5 : ((k : Nat) : Int).toNat = k := by omega
    rw [e5]
    refine lc_range (lo := 0) (n := k) (fun i H' => Kept (∃ rs : List Addr, Same H H' ∧ H' D = some (.lst (rs.map V.ref)) ∧ rs.length = i ∧ (∀ (i j : Nat) (a : Addr), rs[i]? = some a → rs[j]? = some a → i = j) ∧ ∀ a ∈ rs, H a = none ∧ H' a = some (.lst ((row k (fun _ _ => 0) 0).map V.int)))) ⟨[], same_new hD _, upd_same, rfl, fun i j a h => by simp at h, fun a h => absurd h List.not_mem_nil⟩ ?_ ?_
    · rintro i H2 hi ⟨rs, S2, hD2, hl, inj, hrs⟩
      have e1 : (k : Int) - 1 = ((k - 1 : Nat) : Int) := by omega
      have hsh : CShl 1 ((k : Int) - 1) := by rw [e1]; exact shl_ok (by omega)
      have eL : (1 : Int) * 2 ^ (((k : Nat) : Int) - 1).toNat = ((2 ^ (k - 1) : Nat) : Int) := by rw [Int.one_mul, e1, Int.toNat_natCast]; push_cast; rfl
      have e8 : 2 ^ (k - 1) ≤ 8 := (Nat.pow_le_pow_right (by decide) (by omega) : 2 ^ (k - 1) ≤ 2 ^ 3)
      have ul : (rs.map V.ref).length ≤ 16 := by rw [List.length_map]; omega
      try walk_at "go"
      intro P hP
      generalize eH3 : upd _ P _ = H3
      have SH3 := newS eH3 hP
      have oP := newO eH3
      try walk_at "go"
      rw [eL, Int.toNat_natCast]
      have eR : (List.replicate (2 ^ (k - 1)) [V.int 0]).flatten = (row k (fun _ _ => 0) 0).map V.int := flat_rep
      rw [eR]
      intro R hR
      generalize eH4 : upd _ R _ = H4
      have SH4 := newS eH4 hR
      have oR := newO eH4
      have hD4 := SH4 _ _ (SH3 _ _ hD2)
      have hRn : H R = none := none_back S2 (none_back SH3 hR)
      have nRD : R ≠ D := fun z => by subst z; rw [SH3 _ _ hD2] at hR; cases hR
      have nin : ∀ a ∈ rs, a ≠ R := fun a ha z => by have e9 := SH3 _ _ (hrs a ha).2; rw [z, hR] at e9; cases e9
      have nDr : ∀ a ∈ rs, a ≠ D := fun a ha z => by have e9 := (hrs a ha).1; have e8 := (hrs a ha).2; rw [z, hD2] at e8; exact ints_refs row_ne (Option.some.inj e8).symm
      try walk_at "go"
      refine ⟨⟨rs ++ [R], but_same hD (S2.trans (SH3.trans SH4)) But.upd, by rw [upd_same, List.map_append] <;> rfl, by rw [List.length_append, hl] <;> rfl, inj_snoc inj nin, fun a ha => ?_⟩⟩
      rcases List.mem_append.mp ha with c | c
      · exact ⟨(hrs a c).1, by rw [upd_ne (nDr a c)]; exact SH4 _ _ (SH3 _ _ (hrs a c).2)⟩
      · rw [List.mem_singleton.mp c]
        exact ⟨hRn, by rw [upd_ne nRD]; exact oR⟩
    · rintro H2 ⟨rs, S2, hD2, hl, inj, hrs⟩
      refine q D rs _ S2 hD hD2 (fun a ha => (hrs a ha).1) ⟨hl, inj, fun j a h => (hrs a (List.mem_of_getElem? h)).2⟩
def spAsSe (K : PySem.W.Frag) : Sp := fun vs H Q _ => ∃ (D : Addr) (rs : List Addr) (k : Nat) (c : Tbl), vs = [.ref D] ∧ k ≤ 4 ∧ H D = some (.lst (rs.map V.ref)) ∧ RowsAt H rs k c ∧ ∀ T H', Same H H' → SeAt H' T k c → Q (.ref T) H'
theorem k_as_settings (D : Df K mg "as_settings" s_as_settings ["rows"]) : Dn P w K mg base 1 "as_settings" ["rows"] (spAsSe K) := by
  refine D.ok fun f fd F => okG0 F sc_as_settings (fun vs H Q E h => ?_) (fun cdv A outer s H vs Q E hr h => ⟨_, (pss_one (ps_ret (pe_callTy (tupOfK (K := K)) (by rfl) B.tuple_ (by decide +kernel) (pa_cons (pe_lc (own := [("row", 1)]) (g := gName 1) (tt := tYes) rfl sc_as_settings.nd (kk (K := K) (F := fun K => iList K _) (P := PI _ _ _) (pi_list (pv 0))) (blkOk_by (own := [("row", 1)]) (N := ["rows", "row"]) (sc := defScope s_as_settings) (by decide +kernel)) (fun _ _ _ _ _ => (pg_name (i := 1) sc_as_settings.nd rfl (Or.inl rfl))) (fun _ _ _ _ _ => pts_nil) (fun _ _ _ _ _ => (pe_callTy (tupOfK (K := K)) (by rfl) B.tuple_ (by decide +kernel) (pa_cons (pv 1) pa_nil)))) pa_nil)))), ?_⟩)
  · obtain ⟨D, rs, k, c, rfl, _⟩ := h; rfl
  · obtain ⟨D, rs, k, c, rfl, hk, hD, hR, q⟩ := h
    have hrl := hR.len
    try walk_at "go"
    intro E hE
    refine lc_list (K := K) (a := D) (xs := rs.map V.ref) (fun i H' => Kept (∃ us : List Addr, Same H H' ∧ H' E = some (.lst (us.map V.ref)) ∧ us.length = i ∧ ∀ (j : Nat) (a : Addr), us[j]? = some a → H' a = some (.tup ((row k c j).map V.int)))) ⟨[], same_new hE _, upd_same, rfl, fun j a h => by simp at h⟩ (fun i H' _ h => by obtain ⟨us, S, _⟩ := h.ex; exact SqL.of (S _ _ hD)) ?_ ?_
    · rintro i x H2 hx ⟨us, S2, hE2, hul, hus⟩
      rw [List.getElem?_map] at hx
      obtain ⟨r, hr, rfl⟩ := Option.map_eq_some_iff.mp hx
      have hi : i < 4 := by have := (List.getElem?_eq_some_iff.mp hr).1; omega
      have hr2 := S2 _ _ (hR.at_ i r hr)
      have ul : (us.map V.ref).length ≤ 16 := by rw [List.length_map]; omega
      try walk_at "go"
      intro U hU
      generalize eH3 : upd _ U _ = H3
      have SH3 := newS eH3 hU
      have oU := newO eH3
      have hE3 := SH3 _ _ hE2
      try walk_at "go"
      refine ⟨⟨us ++ [U], but_same hE (S2.trans SH3) But.upd, by rw [upd_same, List.map_append] <;> rfl, by rw [List.length_append, hul] <;> rfl, fun j a ha => ?_⟩⟩
      have tk : ∀ r xs, H3 r = some (.tup xs) → upd H3 E (.lst (us.map V.ref ++ [.ref U])) r = some (.tup xs) := fun r xs e => by rw [upd_ne (ne_of e hE3 (by intro z; cases z))]; exact e
      by_cases cc : j < us.length
      · rw [List.getElem?_append_left cc] at ha
        exact tk _ _ (SH3 _ _ (hus j a ha))
      · rw [List.getElem?_append_right (by omega)] at ha
        have hj : j = i := by
          have := (List.getElem?_eq_some_iff.mp ha).1
          have h5 : [U].length = 1 := rfl
          omega
        subst hj
        rw [hul, Nat.sub_self] at ha
        cases (Option.some.inj ha)
        exact tk _ _ oU
    · rintro H2 ⟨us, S2, hE2, hul, hus⟩
      rw [List.length_map, hrl] at hul
      try walk_at "go"
      intro U hU
      generalize eH3 : upd _ U _ = H3
      have SH3 := newS eH3 hU
      have oU := newO eH3
      exact q U _ (S2.trans SH3) ⟨us, oU, hul, fun j a h => SH3 _ _ (hus j a h)⟩
def spSetBy (K : PySem.W.Frag) : Sp := fun vs H Q _ => ∃ (k : Nat) (T : Addr) (g : Nat → Nat), vs = [.int k, .ref T] ∧ k ≤ 4 ∧ H T = some (.tup (nV (sdl k g))) ∧ Gd k g ∧ Ap k g ∧ ∀ U c H', Same H H' → SeAt H' U k c → Bt c → (∀ h, h < 2 ^ k → la k c h k = g h) → Q (.ref U) H'
theorem k_settings_by (D : Df K mg "settings_by" s_settings_by ["k", "sides"]) (D_plain_rows : Dn P w K mg base 1 "plain_rows" ["k"] spPlain) (D_figure_in : Dn P w K mg base 1 "figure_in" ["k", "line", "stage"] spFig) (D_number_without : Dn P w K mg base 1 "number_without" ["k", "line", "stage"] spNwo) (D_as_settings : Dn P w K mg base 1 "as_settings" ["rows"] (spAsSe K)) : Dn P w K mg base 3 "settings_by" ["k", "sides"] (spSetBy K) := by
  refine D.ok fun f fd F => okG0 F sc_settings_by (fun vs H Q E h => ?_) (fun cdv A outer s H vs Q E hr h => ⟨_, (pss_cons (ps_set (i := 2) sc_settings_by.nd rfl (Or.inl rfl) (pe_cD D_plain_rows (hr.less (by decide)) rfl (pa_cons (pv 0) pa_nil)))
    (pss_cons (ps_for PassesOwn.never rfl (kk (K := K) (F := fun K => iEnumT K _) (P := PI _ _ _) (pi_enumT (by rfl) B.enumerate_ (pa_cons (pv 1) pa_nil))) (kk (K := K) (F := fun K => gTup K 2 _) (P := PG _ _) (pg_tup rfl (pgs_cons (pg_name (i := 3) sc_settings_by.nd rfl (Or.inl rfl)) (pgs_cons (pg_name (i := 4) sc_settings_by.nd rfl (Or.inl rfl)) pgs_nil))))
      (pss_cons (ps_set (i := 5) sc_settings_by.nd rfl (Or.inl rfl) (pv 3))
      (pss_one (ps_for PassesOwn.never rfl (pi_range2 (by rfl) B.range_ (pa_cons pe_int (pa_cons (pe_op op_add (pv 0) pe_int) pa_nil))) (pg_name (i := 6) sc_settings_by.nd rfl (Or.inl rfl))
       (pss_cons (ps_set (i := 7) sc_settings_by.nd rfl (Or.inl rfl) (pe_op op_xor (pe_cD D_figure_in (hr.less (by decide)) rfl (pa_cons (pv 0) (pa_cons (pv 3) (pa_cons (pv 6) pa_nil)))) (pe_cD D_figure_in (hr.less (by decide)) rfl (pa_cons (pv 0) (pa_cons (pv 4) (pa_cons (pv 6) pa_nil))))))
       (pss_cons (ps_asg (pv 7) (pg_sub (pe_ix (kk (K := K) (F := rIxL) (P := IxR _) ix_list) (pv 2) (pe_op op_sub (pv 6) pe_int) (fun _ _ => rfl)) (pe_cD D_number_without (hr.less (by decide)) rfl (pa_cons (pv 0) (pa_cons (pv 5) (pa_cons (pv 6) pa_nil)))) set_list))
       (pss_one (ps_set (i := 5) sc_settings_by.nd rfl (Or.inl rfl) (pe_op op_xor (pv 5) (pe_op op_shlW (pv 7) (pe_op op_sub (pv 0) (pv 6))))))))))))
    (pss_one (ps_ret (pe_cD D_as_settings (hr.less (by decide)) rfl (pa_cons (pv 2) pa_nil)))))), ?_⟩)
  · obtain ⟨k, T, g, rfl, _⟩ := h; rfl
  · obtain ⟨k, T, g, rfl, hk, hT, hg, ap, q⟩ := h
    try walk_at "go"
    intro D rs H1 S1 hDn hD hfr hR
    have hT1 := S1 _ _ hT
    try walk_at "go"
    refine for_enumT (K := K) (a := T) (xs := nV (sdl k g)) (fun i σ H' => Kept (∃ v3 v4 v5 v6 v7 c, σ = [some (.int (k : Nat)), some (.ref T), some (.ref D), v3, v4, v5, v6, v7] ∧ Same H H' ∧ H' D = some (.lst (rs.map V.ref)) ∧ RowsAt H' rs k c ∧ Bt c ∧ Wd k g i 0 c)) ⟨_, _, _, _, _, fun _ _ => 0, rfl, S1, hD, hR, fun _ _ => .inl rfl, Wd.zero⟩ (fun i σ H' _ h => by obtain ⟨_, _, _, _, _, _, _, S, _⟩ := h.ex; exact SqT.of (S _ _ hT)) ?_ ?_
    · rintro i y P σ H2 hi ⟨v3, v4, v5, v6, v7, c, rfl, S2, hD2, hR2, hb2, hw2⟩ hP
      obtain ⟨hik, rfl⟩ := sdl_at hi
      have gi := hg i hik
      generalize eH3 : upd _ P (HO.tup [.int (i : Nat), .int (g i : Nat)]) = H3
      have SH3 := newS eH3 hP
      have oP := newO eH3
      try walk_at "go"
      have e5 : (((k : Nat) : Int) + 1 - 1).toNat = k := by omega
      rw [e5]
      refine for_range (lo := 1) (n := k) (fun j σ H' => Kept (∃ v6 v7 c, ∃ l : Nat, σ = [some (.int (k : Nat)), some (.ref T), some (.ref D), some (.int (i : Nat)), some (.int (g i : Nat)), some (.int (l : Nat)), v6, v7] ∧ Same H H' ∧ H' D = some (.lst (rs.map V.ref)) ∧ RowsAt H' rs k c ∧ Bt c ∧ Wd k g i j c ∧ (l : Int) = low k i (g i) j)) ⟨_, _, c, i, rfl, S2.trans SH3, SH3 _ _ hD2, hR2.same SH3, hb2, hw2, (low_zero k (by omega) i hik (g i) gi).symm⟩ ?_ ?_
      · rintro j σ H4 hj ⟨v6, v7, c, l, rfl, S4, hD4, hR4, hb4, hw4, el⟩
        have ej : (1 : Int) + (j : Int) = ((j + 1 : Nat) : Int) := by omega
        rw [ej]
        have l1 := low_nat (by omega : k < 5) hik gi (show j ≤ k by omega)
        have l2 := low_nat (by omega : k < 5) hik gi (show j + 1 ≤ k by omega)
        have st := low_step k (by omega) i hik (g i) gi j hj
        have cb := crs_bit (by omega : k < 5) hik gi hj
        have ws := hw4.step (by omega : k < 5) hg ap hik hj
        have elt : (low k i (g i) j).toNat = l := by omega
        rw [elt] at ws
        have li : l < 2 ^ k := by omega
        have ni := nwo_in k (by omega) l li j hj
        have nl : (nwo k l (j + 1)).toNat < 2 ^ (k - 1) := by
          have e : ((2 ^ (k - 1) : Nat) : Int) = 2 ^ (k - 1) := by push_cast; rfl
          omega
        have hjr : j < rs.length := by rw [hR4.len]; exact hj
        obtain ⟨r, er⟩ : ∃ r, rs[j]? = some r := ⟨_, List.getElem?_eq_getElem hjr⟩
        have hr := hR4.at_ j _ er
        have g2 : atI (rs.map V.ref) (((j + 1 : Nat) : Int) - 1) = some (.ref r) := by rw [show ((j + 1 : Nat) : Int) - 1 = (j : Int) by omega]; exact atI_nat (by rw [List.getElem?_map, er] <;> rfl)
        have hix : ixN ((row k c j).map V.int).length (nwo k l (j + 1)) = some (nwo k l (j + 1)).toNat := by
          rw [show nwo k l (j + 1) = ((nwo k l (j + 1)).toNat : Nat) by omega]
          rw [Int.toNat_natCast]
          exact ixn (by rw [List.length_map, row_len]; exact nl)
        have hbs := bit_shl hk hj cb
        have hfrj := hfr _ (List.mem_of_getElem? er)
        generalize hcr : crs k i (g i) j = cr at *
        have hcr2 : Builtin.bitXor (fg k i (j + 1)) (fg k (g i) (j + 1)) = cr := hcr
        rw [hcr2] at st
        try walk_at "go"
        have e12 : (fun i j : Int => V.int (Builtin.bitXor i j)) (fg k i (j + 1)) (fg k (g i) (j + 1)) = V.int cr := congrArg V.int hcr2
        rw [e12, hcr2]
        generalize eH5 : upd H4 r (HO.lst (((row k c j).map V.int).set (nwo k l (j + 1)).toNat (.int cr))) = H5
        have BH5 : But r H4 H5 := eH5 ▸ But.upd
        have oH5 : H5 r = some (HO.lst (((row k c j).map V.int).set (nwo k l (j + 1)).toNat (.int cr))) := eH5 ▸ upd_same
        have nrD : r ≠ D := fun z => by have e8 := hr; rw [z, hD4] at e8; exact ints_refs row_ne (Option.some.inj e8).symm
        have hD5 := BH5 _ _ (Ne.symm nrD) hD4
        have hR5 := hR4.upd er BH5 oH5 nl
        have S5 : Same H H5 := fun b o h => BH5 _ _ (ne_of_none h hfrj) (S4 _ _ h)
        have hl5 : ((low k i (g i) (j + 1)).toNat : Int) = low k i (g i) (j + 1) := l2.1.symm
        try walk_at "go"
        refine ⟨⟨some (.int ((j + 1 : Nat) : Int)), some (.int cr), wr c j (nwo k l (j + 1)).toNat cr, (low k i (g i) (j + 1)).toNat, ?_, S5, hD5, hR5, wr_bit hb4 cb, ws, hl5⟩⟩
        rw [hl5, st, ← el] <;> rfl
      · rintro σ H4 ⟨v6, v7, c, l, rfl, S4, hD4, hR4, hb4, hw4, el⟩
        exact ⟨⟨_, _, _, _, _, c, rfl, S4, hD4, hR4, hb4, hw4.next⟩⟩
    · rintro σ H2 ⟨v3, v4, v5, v6, v7, c, rfl, S2, hD2, hR2, hb2, hw2⟩
      rw [sdl_len] at hw2
      try walk_at "go"
      intro U H3 S3 hU
      exact q U c _ (S2.trans S3) hU hb2 (hw2.fin (by omega) hg)
def wnN : PyData → Nat
  | .int i => i.toNat
  | _ => 0
omit B in
theorem isL_inv {k : Nat} {d : PyData} (h : isL k d = true) : d = .int (wnN d : Nat) ∧ wnN d < 2 ^ k := by
  obtain ⟨n, rfl, hn⟩ := line_inv h
  exact ⟨rfl, hn⟩
omit B in
theorem prt_of {K : PySem.W.Frag} {p : Addr} {H : Hp} {v : V} {e : PyData} {k : Nat} (h : Th K p H v e) (c1 : okH k e = true) (c2 : okS k e = true) (hl : (psD e).length ≤ 100) : ∃ (T : Addr) (ts : List Addr) (ps : List (Nat × Nat)), v = .ref T ∧ PrT H k T ts ps := by
  unfold okH at c1
  rw [Bool.and_eq_true] at c1
  obtain ⟨eP, c1⟩ := c1
  cases ed : isTu e with
  | false => rw [isPs_no ed] at eP; cases eP
  | true =>
    obtain ⟨ds, rfl⟩ := isTu_inv ed
    obtain ⟨a, tr, rfl, rfl, ha, htr⟩ := h.tup_inv
    have a2 := snd_all (f := isT2) eP
    have a3 := snd_all (f := fun d => isL k (pr1 d)) c1
    have a4 := snd_all (f := fun d => isL k (pr2 d)) c2
    have l100 : tr.length ≤ 100 := by
      have : (tr.map fun t => t.2).length ≤ 100 := hl
      rw [List.length_map] at this; exact this
    refine ⟨a, tr.map fun t => (match t.1 with | .ref b => b | _ => 0), tr.map fun t => (wnN (pr1 t.2), wnN (pr2 t.2)), rfl, ?_, ⟨by rw [List.length_map, List.length_map], fun j t q h1 h2 => ?_⟩, fun q hq => ?_, by rw [List.length_map]; exact l100⟩
    · rw [ha, List.map_map]
      congr 2
      refine List.map_congr_left fun t ht => ?_
      obtain ⟨b, x, y, e1, _⟩ := t2_inv (htr t ht) (a2 t ht)
      show t.1 = V.ref (match t.1 with | .ref b => b | _ => 0)
      rw [e1]
    · rw [List.getElem?_map] at h1 h2
      obtain ⟨t1, ht1, rfl⟩ := Option.map_eq_some_iff.mp h1
      rw [ht1] at h2
      cases h2
      have hm := List.mem_of_getElem? ht1
      obtain ⟨b, x, y, e1, hb, hx, hy⟩ := t2_inv (htr t1 hm) (a2 t1 hm)
      rw [e1]
      show H b = some (.tup [.int (wnN (pr1 t1.2) : Nat), .int (wnN (pr2 t1.2) : Nat)])
      have f1 := (isL_inv (a3 t1 hm)).1
      have f2 := (isL_inv (a4 t1 hm)).1
      rw [f1] at hx
      rw [f2] at hy
      rw [hb, hx.int_inv, hy.int_inv]
    · obtain ⟨t, ht, rfl⟩ := List.mem_map.mp hq
      exact ⟨(isL_inv (a3 t ht)).2, (isL_inv (a4 t ht)).2⟩
/-- a side for each hand -/
def okSd (k : Nat) : PyData → Bool
  | .tuple ds => decide (ds.length = 2 ^ k) && ds.all (isL k)
  | _ => false
omit B in
theorem okSd_no {k : Nat} {d : PyData} (h : isTu d = false) : okSd k d = false := by cases d <;> first | rfl | cases h
omit B in
theorem sides_of {K : PySem.W.Frag} {p : Addr} {H : Hp} {v : V} {e : PyData} {k : Nat} (h : Th K p H v e) (c : okSd k e = true) : ∃ (T : Addr) (g : Nat → Nat), v = .ref T ∧ H T = some (.tup (nV (sdl k g))) ∧ Gd k g := by
  cases ed : isTu e with
  | false => rw [okSd_no ed] at c; cases c
  | true =>
    obtain ⟨ds, rfl⟩ := isTu_inv ed
    obtain ⟨a, tr, rfl, rfl, ha, htr⟩ := h.tup_inv
    have c : (decide ((tr.map fun t => t.2).length = 2 ^ k) && (tr.map fun t => t.2).all (isL k)) = true := c
    rw [Bool.and_eq_true, decide_eq_true_iff, List.length_map] at c
    obtain ⟨c1, c2⟩ := c
    have al := snd_all (f := isL k) c2
    have gg : ∀ (j : Nat) (t : V × PyData), tr[j]? = some t → wnN ((tr.map fun t => t.2).getD j .none) = wnN t.2 := fun j t hj => by rw [List.getD_eq_getElem?_getD, List.getElem?_map, hj] <;> rfl
    refine ⟨a, fun j => wnN ((tr.map fun t => t.2).getD j .none), rfl, ?_, fun j hj => ?_⟩
    · rw [ha]
      congr 2
      refine List.ext_getElem? fun j => ?_
      unfold nV sdl
      rw [List.getElem?_map, List.getElem?_map, List.getElem?_map]
      by_cases hj : j < 2 ^ k
      · have ht : tr[j]? = some tr[j] := List.getElem?_eq_getElem (by omega)
        rw [List.getElem?_range hj, ht]
        have hm := List.mem_of_getElem? ht
        have f := isL_inv (al _ hm)
        have th := htr _ hm
        rw [f.1] at th
        show some (tr[j].1) = some (V.int (wnN ((tr.map fun t => t.2).getD j .none) : Nat))
        rw [gg j _ ht, th.int_inv]
      · rw [List.getElem?_eq_none (by omega), List.getElem?_eq_none (by rw [List.length_range]; omega)] <;> rfl
    · have ht : tr[j]? = some tr[j] := List.getElem?_eq_getElem (by omega)
      show wnN _ < _
      rw [gg j _ ht]
      exact (isL_inv (al _ (List.mem_of_getElem? ht))).2
def spFSh (K : PySem.W.Frag) (N M S : Addr) : Sp := fun vs H Q E => ∃ (u v : V) (d e : PyData) (p : Addr), vs = [u, v] ∧ Th K p H u d ∧ Th K p H v e ∧ (psD e).length ≤ 100 ∧
  (∀ k : Nat, d = .int k → k ≤ 4 → okH k e = true → okS k e = true → ∀ x H', Same H H' → Q x H') ∧ (isR d 0 4 = false → ∀ H', Same H H' → E (.ref N) none H') ∧ (∀ k : Nat, d = .int k → k ≤ 4 → okH k e = false → ∀ H', Same H H' → E (.ref M) none H') ∧ (∀ k : Nat, d = .int k → k ≤ 4 → okH k e = true → okS k e = false → ∀ H', Same H H' → E (.ref S) none H')
theorem k_first_shared (D : Df K mg "first_shared" s_first_shared ["k", "pairs"]) (D_want_net : DxD P w K mg base 3 "want_net" ["k", "deepest"] [.int 4] (spNetT K (cAt mg "NoNet"))) (D_want_net_all : DxD P w K mg base 3 "want_net" ["k", "deepest"] [] (spNetT K (cAt mg "NoNet"))) (D_want_pairs : Dx P w K mg base 4 "want_pairs" ["k", "pairs"] (spWPT K (cAt mg "NoHand") (cAt mg "NoSide"))) (D_shared_line : Dn P w K mg base 2 "shared_line" ["k", "pairs"] (spShared K)) : Dx P w K mg base 5 "first_shared" ["k", "pairs"] (spFSh K (cAt mg "NoNet") (cAt mg "NoHand") (cAt mg "NoSide")) := by
  refine D.okX fun f fd F => okGX F sc_first_shared (fun vs H Q E h => ?_) (fun cdv A outer s H vs Q E hr h => ⟨_, (pss_cons (ps_expr (pe_cXd D_want_net (hr.less (by decide)) (takes_of rfl rfl rfl rfl) rfl (pa_cons (pv 0) pa_nil)))
    (pss_cons (ps_expr (pe_cW D_want_pairs (hr.less (by decide)) (takes_of rfl rfl rfl rfl) rfl (pa_cons (pv 0) (pa_cons (pv 1) pa_nil))))
    (pss_one (ps_ret (pe_cD D_shared_line (hr.less (by decide)) rfl (pa_cons (pv 0) (pa_cons (pv 1) pa_nil))))))), ?_⟩)
  · obtain ⟨u, v, d, e, p, rfl, _⟩ := h; rfl
  · obtain ⟨u, v, d, e, p, rfl, hu, hv, hl, q1, q2, q3, q4⟩ := h
    try walk_at "go"
    refine ⟨fun c1 => ?_, fun c1 => q2 c1 H (Same.refl _)⟩
    obtain ⟨k, rfl, k4⟩ := net_inv c1
    cases hu.int_inv
    try walk_at "go"
    refine ⟨fun c2 c3 H1 S1 => ?_, fun c2 => q3 k rfl k4 c2, fun c2 c3 => q4 k rfl k4 c2 c3⟩
    obtain ⟨T, ts, ps, rfl, hP⟩ := prt_of (hv.same S1) c2 c3 hl
    replace q1 := q1 k rfl k4 c2 c3
    have q5 : rAns k ps H1 Q := fun r v H' h1 h2 h3 => q1 v H' (S1.trans h2)
    try walk_at "go"
    exact q5
def spWSd (K : PySem.W.Frag) (S : Addr) : Sp := fun vs H Q E => ∃ (v : V) (e : PyData) (p : Addr) (k : Nat), vs = [.int k, v] ∧ k ≤ 4 ∧ Th K p H v e ∧ (okSd k e = true → ∀ H', Same H H' → Q .non H') ∧ (okSd k e = false → ∀ H', Same H H' → E (.ref S) none H')
theorem k_want_sides (D : Df K mg "want_sides" s_want_sides ["k", "sides"]) (D_is_line : Dn P w K mg base 2 "is_line" ["k", "thing"] (spLineT K)) : Dx P w K mg base 3 "want_sides" ["k", "sides"] (spWSd K (cAt mg "NoSide")) := by
  refine D.okX fun f fd F => okGX F sc_want_sides (fun vs H Q E h => ?_) (fun cdv A outer s H vs Q E hr h => ⟨_, (pss_one (ps_if (PW.pt (pw_or (pt_not (pt_val (pe_callB (kk (K := K) (F := rIsi) (P := CallR _ _) call_isi) (by rfl) B.isinstance_ (by decide +kernel) (pa_cons (pv 1) (pa_cons (pe_bltn (v := .ty "tuple") (u := .type "tuple") (by rfl) B.tuple_ (by decide +kernel) rfl) pa_nil))))) (pw_or (pt_cmpR op_ne (pe_callB (lenK (K := K)) (by rfl) B.len_ (by decide +kernel) (pa_cons (pv 1) pa_nil)) (pe_op op_shlW pe_int (pv 0)) (nomark _)) (pw_or1 (pt_not (pt_val (pe_callB (kk (K := K) (F := rAll) (P := CallR _ _) (cr_all rfl)) (by rfl) B.all_ (by decide +kernel) (pa_cons (pe_lc (own := [("goal", 2)]) (g := gName 2) (tt := tYes) rfl sc_want_sides.nd (kk (K := K) (F := fun K => iTup K _) (P := PI _ _ _) (pi_tup (pv 1))) (blkOk_by (own := [("goal", 2)]) (N := ["k", "sides", "goal"]) (sc := defScope s_want_sides) (by decide +kernel)) (fun _ _ _ _ _ => (pg_name (i := 2) sc_want_sides.nd rfl (Or.inl rfl))) (fun _ _ _ _ _ => pts_nil) (fun _ _ _ _ _ => (pe_cD D_is_line (hr.less (by decide)) rfl (pa_cons (pv 0) (pa_cons (pv 2) pa_nil))))) pa_nil))))))))
     (pss_one (ps_raise rfl (takes_of rfl rfl rfl rfl) (pmk_own PySem.F.excBase_ValueError B.NoSide_.ex B.NoSide_.mg_ B.NoSide_.kp (raises_own B.NoSide_.bs B.NoSide_.tp) rfl)))
     pss_nil)), ?_⟩)
  · obtain ⟨v, e, p, k, rfl, _⟩ := h; rfl
  · obtain ⟨v, e, p, k, rfl, hk, hd, q1, q2⟩ := h
    have hsh : CShl 1 (k : Int) := shl_ok (by omega)
    have e16 : 2 ^ k ≤ 16 := (Nat.pow_le_pow_right (by decide) hk : 2 ^ k ≤ 2 ^ 4)
    have ty := hd.ty
    have kt := kit_tu (K := K) e
    cases ed : isTu e with
    | false =>
      rw [ed] at kt
      try walk_at "go"
      exact q2 (okSd_no ed) H (Same.refl _)
    | true =>
      rw [ed] at kt
      obtain ⟨ds, rfl⟩ := isTu_inv ed
      obtain ⟨a, tr, rfl, rfl, ha, htr⟩ := hd.tup_inv
      have lm : (tr.map fun t => t.1).length = tr.length := List.length_map _
      have ok : okSd k (.tuple (tr.map fun t => t.2)) = (decide (tr.length = 2 ^ k) && (tr.map fun t => t.2).all (isL k)) := by
        show (decide ((tr.map fun t => t.2).length = 2 ^ k) && _) = _
        rw [List.length_map]
      try walk_at "go"
      by_cases el : tr.length = 2 ^ k
      · refine ifF (show (!decide (V.int ((tr.map fun t => t.1).length : Nat) = V.int (1 * 2 ^ (k : Int).toNat))) = false by rw [lm, el, p2k]; exact dec_ne rfl) ?_
        try walk_at "go"
        intro D hD
        refine lc_tup (K := K) (a := a) (xs := tr.map fun t => t.1) (fun i H' => Kept (Same H H' ∧ H' D = some (.lst (((tr.take i).map fun t => isL k t.2).map V.bl)))) ⟨⟨same_new hD _, upd_same⟩⟩ (fun i H' _ h => SqT.of (h.ex.1 _ _ ha)) ?_ ?_
        · rintro i x H' hx ⟨S1, hD1⟩
          rw [List.getElem?_map] at hx
          obtain ⟨⟨tv, td⟩, ht, rfl⟩ := Option.map_eq_some_iff.mp hx
          have il := (List.getElem?_eq_some_iff.mp ht).1
          have th : Th K p H' tv td := (htr _ (List.mem_of_getElem? ht)).same S1
          have li : (((tr.take i).map fun t => isL k t.2).map V.bl).length ≤ 100 := by rw [List.length_map, List.length_map, List.length_take]; omega
          have tk : (((tr.take i).map fun t => isL k t.2).map V.bl) ++ [.bl (isL k td)] = ((tr.take (i + 1)).map fun t => isL k t.2).map V.bl := by rw [List.take_succ, ht, List.map_append, List.map_append] <;> rfl
          try walk_at "go"
          exact ⟨⟨but_same hD S1 But.upd, by rw [upd_same]; exact congrArg (fun z => some (HO.lst z)) tk⟩⟩
        rintro H2 ⟨S2, hD2⟩
        rw [lm, List.take_length] at hD2
        have ea : ((tr.map fun t => isL k t.2).all id) = (tr.map fun t => t.2).all (isL k) := by rw [List.all_map, List.all_map] <;> rfl
        try walk_at "go"
        rw [ea]
        cases eA : (tr.map fun t => t.2).all (isL k) with
        | false =>
          refine ifT rfl ?_
          exact q2 (by rw [ok, eA, Bool.and_false]) _ S2
        | true =>
          refine ifF rfl ?_
          try walk_at "go"
          exact q1 (by rw [ok, eA, decide_eq_true el] <;> rfl) _ S2
      · refine ifT (show (!decide (V.int ((tr.map fun t => t.1).length : Nat) = V.int (1 * 2 ^ (k : Int).toNat))) = true by rw [lm, p2k, decide_eq_false (fun z => el (by have := V.int.inj z; omega))] <;> rfl) ?_
        exact q2 (by rw [ok, decide_eq_false el, Bool.false_and]) H (Same.refl _)
def spSFT (K : PySem.W.Frag) (N S : Addr) : Sp := fun vs H Q E => ∃ (u v : V) (d e : PyData) (p : Addr), vs = [u, v] ∧ Th K p H u d ∧ Th K p H v e ∧
  (∀ k : Nat, d = .int k → k ≤ 4 → okSd k e = true → ∀ x H', Same H H' → Q x H') ∧ (isR d 0 4 = false → ∀ H', Same H H' → E (.ref N) none H') ∧ (∀ k : Nat, d = .int k → k ≤ 4 → okSd k e = false → ∀ H', Same H H' → E (.ref S) none H')
theorem k_settings_for (D : Df K mg "settings_for" s_settings_for ["k", "sides"]) (D_want_net : DxD P w K mg base 3 "want_net" ["k", "deepest"] [.int 4] (spNetT K (cAt mg "NoNet"))) (D_want_net_all : DxD P w K mg base 3 "want_net" ["k", "deepest"] [] (spNetT K (cAt mg "NoNet"))) (D_want_sides : Dx P w K mg base 3 "want_sides" ["k", "sides"] (spWSd K (cAt mg "NoSide"))) (D_shared_line : Dn P w K mg base 2 "shared_line" ["k", "pairs"] (spShared K)) (D_settings_by : Dn P w K mg base 3 "settings_by" ["k", "sides"] (spSetBy K)) : Dx P w K mg base 6 "settings_for" ["k", "sides"] (spSFT K (cAt mg "NoNet") (cAt mg "NoSide")) := by
  refine D.okX fun f fd F => okGX F sc_settings_for (fun vs H Q E h => ?_) (fun cdv A outer s H vs Q E hr h => ⟨_, (pss_cons (ps_expr (pe_cXd D_want_net (hr.less (by decide)) (takes_of rfl rfl rfl rfl) rfl (pa_cons (pv 0) pa_nil)))
    (pss_cons (ps_expr (pe_cW D_want_sides (hr.less (by decide)) (takes_of rfl rfl rfl rfl) rfl (pa_cons (pv 0) (pa_cons (pv 1) pa_nil))))
    (pss_cons (ps_set (i := 2) sc_settings_for.nd rfl (Or.inl rfl) (pe_cD D_shared_line (hr.less (by decide)) rfl (pa_cons (pv 0) (pa_cons (kk (K := K) (F := fun K => tTupEnT K _) (P := PE _ _) (pe_tupEnT rfl (by rfl) B.tuple_ (by rfl) B.enumerate_ (pa_cons (pv 1) pa_nil))) pa_nil))))
    (pss_cons (ps_if (pt_cmpR op_notN (pv 2) pe_non (nomark _))
      (pss_one (ps_ret (pe_tup (pa_cons pe_str (pa_cons (pv 2) pa_nil)))))
      pss_nil)
    (pss_one (ps_ret (pe_tup (pa_cons pe_str (pa_cons (pe_cD D_settings_by (hr.less (by decide)) rfl (pa_cons (pv 0) (pa_cons (pv 1) pa_nil))) pa_nil))))))))), ?_⟩)
  · obtain ⟨u, v, d, e, p, rfl, _⟩ := h; rfl
  · obtain ⟨u, v, d, e, p, rfl, hu, hv, q1, q2, q3⟩ := h
    try walk_at "go"
    refine ⟨fun c1 => ?_, fun c1 => q2 c1 H (Same.refl _)⟩
    obtain ⟨k, rfl, hk⟩ := net_inv c1
    cases hu.int_inv
    try walk_at "go"
    refine ⟨fun c2 H1 S1 => ?_, fun c2 => q3 k rfl hk c2⟩
    obtain ⟨T, g, rfl, hT1, hg⟩ := sides_of (hv.same S1) c2
    replace q : ∀ x H', Same H H' → Q x H' := q1 k rfl hk c2
    have e16 : 2 ^ k ≤ 16 := (Nat.pow_le_pow_right (by decide) hk : 2 ^ k ≤ 2 ^ 4)
    have l100 : (nV (sdl k g)).length ≤ 1000 := by rw [sdl_len]; omega
    try walk_at "go"
    intro P ts H2 S2 hPn hP hl hx
    have hP2 : PrT H2 k P ts (prs k g) := by
      refine ⟨hP, ⟨by rw [hl, sdl_len]; unfold prs; rw [List.length_map, List.length_range], fun j t p ht hp => ?_⟩, fun p hp => ?_, by unfold prs; rw [List.length_map, List.length_range]; omega⟩
      · unfold prs at hp
        rw [List.getElem?_map] at hp
        obtain ⟨j', hj', rfl⟩ := Option.map_eq_some_iff.mp hp
        have hjl : j < 2 ^ k := by have := (List.getElem?_eq_some_iff.mp hj').1; rwa [List.length_range] at this
        rw [List.getElem?_range hjl] at hj'
        cases hj'
        refine hx j t _ ht ?_
        unfold nV sdl
        rw [List.getElem?_map, List.getElem?_map, List.getElem?_range hjl] <;> rfl
      · unfold prs at hp
        obtain ⟨j, hj, rfl⟩ := List.mem_map.mp hp
        exact ⟨List.mem_range.mp hj, hg j (List.mem_range.mp hj)⟩
    try walk_at "go"
    intro r v H3 fs S3 hv
    have hT3 := S3 _ _ (S2 _ _ hT1)
    cases r with
    | none =>
      have hv2 : v = .non := hv
      subst hv2
      have ap := ap_of (by omega : k < 5) hg fs
      try walk_at "go"
      intro X c H4 S4 hX hb hl4
      try walk_at "go"
      intro U hU
      generalize eH5 : upd _ U _ = H5
      have SH5 := newS eH5 hU
      have oU := newO eH5
      exact q _ _ (S1.trans (S2.trans (S3.trans (S4.trans SH5))))
    | some r =>
      obtain ⟨X, hv2, hX⟩ : ∃ U, v = .ref U ∧ H3 U = some (.tup [.int (r.1 : Nat), .int r.2]) := hv
      subst hv2
      try walk_at "go"
      intro U hU
      generalize eH5 : upd _ U _ = H5
      have SH5 := newS eH5 hU
      have oU := newO eH5
      exact q _ _ (S1.trans (S2.trans (S3.trans SH5)))
/-! SPLIT -/
def spLedF (K : PySem.W.Frag) : Sp := fun vs H Q _ => ∃ (k : Nat) (T : Addr) (s : Tbl) (h : Nat), vs = [.int k, .ref T, .int h] ∧ k ≤ 4 ∧ SeAt H T k s ∧ Bt s ∧ h < 2 ^ k ∧ Q (.int (la k s h k : Nat)) H
theorem k_led_from (D : Df K mg "led_from" s_led_from ["k", "settings", "hand"]) (D_number_without : Dn P w K mg base 1 "number_without" ["k", "line", "stage"] spNwo) : Dn P w K mg base 2 "led_from" ["k", "settings", "hand"] (spLedF K) := by
  refine D.ok fun f fd F => okG0 F sc_led_from (fun vs H Q E h => ?_) (fun cdv A outer s H vs Q E hr h => ⟨_, (pss_cons (ps_set (i := 3) sc_led_from.nd rfl (Or.inl rfl) (pv 2))
    (pss_cons (ps_for PassesOwn.never rfl (pi_range2 (by rfl) B.range_ (pa_cons pe_int (pa_cons (pe_op op_add (pv 0) pe_int) pa_nil))) (pg_name (i := 4) sc_led_from.nd rfl (Or.inl rfl))
      (pss_one (ps_set (i := 3) sc_led_from.nd rfl (Or.inl rfl) (pe_op op_xor (pv 3) (pe_op op_shlW (pe_ix (kk (K := K) (F := rIxT) (P := IxR _) ix_tup) (pe_ix (kk (K := K) (F := rIxT) (P := IxR _) ix_tup) (pv 1) (pe_op op_sub (pv 4) pe_int) (fun _ _ => rfl)) (pe_cD D_number_without (hr.less (by decide)) rfl (pa_cons (pv 0) (pa_cons (pv 3) (pa_cons (pv 4) pa_nil)))) (fun _ _ => rfl)) (pe_op op_sub (pv 0) (pv 4)))))))
    (pss_one (ps_ret (pv 3))))), ?_⟩)
  · obtain ⟨k, T, s, x, rfl, _⟩ := h; rfl
  · obtain ⟨k, T, s, x, rfl, hk, hS, hb, hx, q⟩ := h
    try walk_at "go"
    have e5 : (((k : Nat) : Int) + 1 - 1).toNat = k := by omega
    rw [e5]
    refine for_range (lo := 1) (n := k) (fun j σ H' => ∃ v4, σ = [some (.int (k : Nat)), some (.ref T), some (.int (x : Nat)), some (.int (la k s x j : Nat)), v4] ∧ H' = H) ⟨_, rfl, rfl⟩ ?_ ?_
    · rintro j σ H2 hj ⟨v4, rfl, rfl⟩
      have ej : (1 : Int) + (j : Int) = ((j + 1 : Nat) : Int) := by omega
      rw [ej]
      have li := la_in (by omega : k < 5) hb hx j (by omega)
      have ni := nwo_in k (by omega) _ li j hj
      have en : nwo k (la k s x j) (j + 1) = ((nwo k (la k s x j) (j + 1)).toNat : Nat) := by omega
      have nl : (nwo k (la k s x j) (j + 1)).toNat < 2 ^ (k - 1) := by
        have e : ((2 ^ (k - 1) : Nat) : Int) = 2 ^ (k - 1) := by push_cast; rfl
        omega
      obtain ⟨as, r, g1, g2, g3, g4⟩ := hS.get hj nl
      rw [← en] at g4
      have g2' : atI (as.map V.ref) (((j + 1 : Nat) : Int) - 1) = some (.ref r) := by rw [show ((j + 1 : Nat) : Int) - 1 = (j : Int) by omega]; exact g2
      have hbs := bit_shl hk hj (hb j (nwo k (la k s x j) (j + 1)).toNat)
      have sb := stp_bit (by omega : k < 5) li hj (hb j (nwo k (la k s x j) (j + 1)).toNat)
      try walk_at "go"
      refine ⟨?_, rfl⟩
      rw [show ((la k s x (j + 1) : Nat) : Int) = stp k (la k s x j : Nat) (j + 1) (s j (nwo k (la k s x j) (j + 1)).toNat) from Int.toNat_of_nonneg sb.1] <;> rfl
    · rintro σ H2 ⟨v4, rfl, eH⟩
      cases eH
      try walk_at "go"
      exact q
/-- a row of settings, by its data -/
def isSR (k : Nat) : PyData → Bool
  | .tuple ds => decide (ds.length = 2 ^ (k - 1)) && ds.all fun d => isR d 0 1
  | _ => false
/-- settings, by their data -/
def isSe (k : Nat) : PyData → Bool
  | .tuple ds => decide (ds.length = k) && ds.all (isSR k)
  | _ => false
omit B in
theorem isSR_no {k : Nat} {d : PyData} (h : isTu d = false) : isSR k d = false := by cases d <;> first | rfl | cases h
omit B in
theorem isSe_no {k : Nat} {d : PyData} (h : isTu d = false) : isSe k d = false := by cases d <;> first | rfl | cases h
omit B in
theorem all_snd {tr : List (V × PyData)} {f : PyData → Bool} : ((tr.map fun t => f t.2)).all id = (tr.map fun t => t.2).all f := by
  rw [List.all_map, List.all_map] <;> rfl
omit B in
theorem tkS {α β : Type} {l : List α} {f : α → β} {i : Nat} {x : α} (h : l[i]? = some x) : (l.take (i + 1)).map f = (l.take i).map f ++ [f x] := by rw [List.take_succ, h, List.map_append] <;> rfl
omit B in
theorem boolsS {bs : List Bool} {b : Bool} : bs.map V.bl ++ [.bl b] = (bs ++ [b]).map V.bl := by rw [List.map_append] <;> rfl
def spSRT (K : PySem.W.Frag) : Sp := fun vs H Q _ => ∃ (v : V) (d : PyData) (p : Addr) (k : Nat), vs = [.int k, v] ∧ 1 ≤ k ∧ k ≤ 4 ∧ Th K p H v d ∧ ∀ H', Same H H' → Q (.bl (isSR k d)) H'
theorem k_is_setting_row (D : Df K mg "is_setting_row" s_is_setting_row ["k", "thing"]) (D_is_whole : Dn P w K mg base 1 "is_whole" ["thing"] (spWhT K)) : Dn P w K mg base 2 "is_setting_row" ["k", "thing"] (spSRT K) := by
  refine D.ok fun f fd F => okG0 F sc_is_setting_row (fun vs H Q E h => ?_) (fun cdv A outer s H vs Q E hr h => ⟨_, (pss_cons (ps_if (PW.pt (pw_or (pt_not (pt_val (pe_callB (kk (K := K) (F := rIsi) (P := CallR _ _) call_isi) (by rfl) B.isinstance_ (by decide +kernel) (pa_cons (pv 1) (pa_cons (pe_bltn (v := .ty "tuple") (u := .type "tuple") (by rfl) B.tuple_ (by decide +kernel) rfl) pa_nil))))) (pw_or1 (pt_cmpR op_ne (pe_callB (lenK (K := K)) (by rfl) B.len_ (by decide +kernel) (pa_cons (pv 1) pa_nil)) (pe_op op_shlW pe_int (pe_op op_sub (pv 0) pe_int)) (nomark _)))))
      (pss_one (ps_ret pe_bl))
      pss_nil)
    (pss_one (ps_ret (pe_callB (kk (K := K) (F := rAll) (P := CallR _ _) (cr_all rfl)) (by rfl) B.all_ (by decide +kernel) (pa_cons (pe_lc (own := [("number", 2)]) (g := gName 2) (tt := tYes) rfl sc_is_setting_row.nd (kk (K := K) (F := fun K => iTup K _) (P := PI _ _ _) (pi_tup (pv 1))) (blkOk_by (own := [("number", 2)]) (N := ["k", "thing", "number"]) (sc := defScope s_is_setting_row) (by decide +kernel)) (fun _ _ _ _ _ => (pg_name (i := 2) sc_is_setting_row.nd rfl (Or.inl rfl))) (fun _ _ _ _ _ => pts_nil) (fun _ _ _ _ _ => (pe_and (pe_cD D_is_whole (hr.less (by decide)) rfl (pa_cons (pv 2) pa_nil)) (pe_one (pe_chain op_le op_le pe_int (pv 2) pe_int))))) pa_nil))))), ?_⟩)
  · obtain ⟨v, d, p, k, rfl, _⟩ := h; rfl
  · obtain ⟨v, d, p, k, rfl, k1, hk, hd, q⟩ := h
    have e1 : (k : Int) - 1 = ((k - 1 : Nat) : Int) := by omega
    have hsh : CShl 1 ((k : Int) - 1) := by rw [e1]; exact shl_ok (by omega)
    have eL : (1 : Int) * 2 ^ (((k : Nat) : Int) - 1).toNat = ((2 ^ (k - 1) : Nat) : Int) := by rw [Int.one_mul, e1, Int.toNat_natCast]; push_cast; rfl
    have e8 : 2 ^ (k - 1) ≤ 8 := (Nat.pow_le_pow_right (by decide) (by omega) : 2 ^ (k - 1) ≤ 2 ^ 3)
    have ty := hd.ty
    have kt := kit_tu (K := K) d
    cases e : isTu d with
    | false =>
      rw [e] at kt
      rw [isSR_no e] at q
      try walk_at "go"
      exact q H (Same.refl _)
    | true =>
      rw [e] at kt
      obtain ⟨ds, rfl⟩ := isTu_inv e
      obtain ⟨a, tr, rfl, rfl, ha, htr⟩ := hd.tup_inv
      have lm : (tr.map fun t => t.1).length = tr.length := List.length_map _
      have lm2 : (tr.map fun t => t.2).length = tr.length := List.length_map _
      try walk_at "go"
      by_cases el : tr.length = 2 ^ (k - 1)
      · refine ifF (show (!decide (V.int ((tr.map fun t => t.1).length : Nat) = V.int (1 * 2 ^ ((k : Int) - 1).toNat))) = false by rw [lm, el, eL]; exact dec_ne rfl) ?_
        have ql : isSR k (.tuple (tr.map fun t => t.2)) = ((tr.map fun t => isR t.2 0 1)).all id := by
          rw [all_snd (f := fun d => isR d 0 1)]
          show (decide _ && _) = _
          rw [lm2, decide_eq_true el, Bool.true_and]
        rw [ql] at q
        try walk_at "go"
        intro D hD
        refine lc_tup (K := K) (a := a) (xs := tr.map fun t => t.1) (fun i H' => Kept (Same H H' ∧ H' D = some (.lst (((tr.take i).map fun t => isR t.2 0 1).map V.bl)))) ⟨⟨same_new hD _, upd_same⟩⟩ (fun i H' _ h => SqT.of (h.ex.1 _ _ ha)) ?_ ?_
        · rintro i x H' hx ⟨S1, hD1⟩
          rw [List.getElem?_map] at hx
          obtain ⟨⟨tv, td⟩, ht, rfl⟩ := Option.map_eq_some_iff.mp hx
          have il := (List.getElem?_eq_some_iff.mp ht).1
          have th : Th K p H' tv td := (htr _ (List.mem_of_getElem? ht)).same S1
          have li : (((tr.take i).map fun t => isR t.2 0 1).map V.bl).length ≤ 16 := by rw [List.length_map, List.length_map, List.length_take]; omega
          have tk : (((tr.take i).map fun t => isR t.2 0 1).map V.bl) ++ [.bl (isR td 0 1)] = ((tr.take (i + 1)).map fun t => isR t.2 0 1).map V.bl := by rw [boolsS, tkS ht]
          try walk_at "go"
          cases ew : isWh td with
          | false =>
            rw [isR_no ew] at tk
            try walk_at "go"
            exact ⟨⟨but_same hD S1 But.upd, by rw [upd_same, tk]⟩⟩
          | true =>
            obtain ⟨j, rfl⟩ := isWh_inv ew
            cases th.int_inv
            replace tk : (((tr.take i).map fun t => isR t.2 0 1).map V.bl) ++ [V.bl (decide (0 ≤ j) && decide (j ≤ 1))] = ((tr.take (i + 1)).map fun t => isR t.2 0 1).map V.bl := tk
            try walk_at "go"
            refine ite2 (fun c => ?_) (fun c => ?_)
            · rw [c, Bool.true_and] at tk
              try walk_at "go"
              exact ⟨⟨but_same hD S1 But.upd, by rw [upd_same, tk]⟩⟩
            · rw [Bool.eq_false_iff.mpr c, Bool.false_and] at tk
              try walk_at "go"
              exact ⟨⟨but_same hD S1 But.upd, by rw [upd_same, tk]⟩⟩
        rintro H2 ⟨S2, hD2⟩
        rw [lm, List.take_length] at hD2
        try walk_at "go"
        exact q _ S2
      · refine ifT (show (!decide (V.int ((tr.map fun t => t.1).length : Nat) = V.int (1 * 2 ^ ((k : Int) - 1).toNat))) = true by rw [lm, eL, decide_eq_false (fun z => el (by have := V.int.inj z; omega))] <;> rfl) ?_
        have ql : isSR k (.tuple (tr.map fun t => t.2)) = false := by
          show (decide _ && _) = _
          rw [lm2, decide_eq_false el, Bool.false_and]
        rw [ql] at q
        try walk_at "go"
        exact q H (Same.refl _)
def spISN (K : PySem.W.Frag) (N : Addr) : Sp := fun vs H Q E => ∃ (u v : V) (dk d : PyData) (p : Addr), vs = [u, v] ∧ Th K p H u dk ∧ Th K p H v d ∧ (∀ k : Nat, dk = .int k → k ≤ 4 → ∀ H', Same H H' → Q (.bl (isSe k d)) H') ∧ (isR dk 0 4 = false → ∀ H', Same H H' → E (.ref N) none H')
theorem k_is_settings (D : Df K mg "is_settings" s_is_settings ["k", "thing"]) (D_want_net : DxD P w K mg base 3 "want_net" ["k", "deepest"] [.int 4] (spNetT K (cAt mg "NoNet"))) (D_want_net_all : DxD P w K mg base 3 "want_net" ["k", "deepest"] [] (spNetT K (cAt mg "NoNet"))) (D_is_setting_row : Dn P w K mg base 2 "is_setting_row" ["k", "thing"] (spSRT K)) : Dx P w K mg base 4 "is_settings" ["k", "thing"] (spISN K (cAt mg "NoNet")) := by
  refine D.okX fun f fd F => okGX F sc_is_settings (fun vs H Q E h => ?_) (fun cdv A outer s H vs Q E hr h => ⟨_, (pss_cons (ps_expr (pe_cXd D_want_net (hr.less (by decide)) (takes_of rfl rfl rfl rfl) rfl (pa_cons (pv 0) pa_nil)))
    (pss_one (ps_ret (pe_and (pe_callB (kk (K := K) (F := rIsi) (P := CallR _ _) call_isi) (by rfl) B.isinstance_ (by decide +kernel) (pa_cons (pv 1) (pa_cons (pe_bltn (v := .ty "tuple") (u := .type "tuple") (by rfl) B.tuple_ (by decide +kernel) rfl) pa_nil))) (pe_and (pe_cmpR op_eq (pe_callB (lenK (K := K)) (by rfl) B.len_ (by decide +kernel) (pa_cons (pv 1) pa_nil)) (pv 0) (nomark _)) (pe_one (pe_callB (kk (K := K) (F := rAll) (P := CallR _ _) (cr_all rfl)) (by rfl) B.all_ (by decide +kernel) (pa_cons (pe_lc (own := [("row", 2)]) (g := gName 2) (tt := tYes) rfl sc_is_settings.nd (kk (K := K) (F := fun K => iTup K _) (P := PI _ _ _) (pi_tup (pv 1))) (blkOk_by (own := [("row", 2)]) (N := ["k", "thing", "row"]) (sc := defScope s_is_settings) (by decide +kernel)) (fun _ _ _ _ _ => (pg_name (i := 2) sc_is_settings.nd rfl (Or.inl rfl))) (fun _ _ _ _ _ => pts_nil) (fun _ _ _ _ _ => (pe_cD D_is_setting_row (hr.less (by decide)) rfl (pa_cons (pv 0) (pa_cons (pv 2) pa_nil))))) pa_nil)))))))), ?_⟩)
  · obtain ⟨u, v, dk, d, p, rfl, _⟩ := h; rfl
  · obtain ⟨u, v, dk, d, p, rfl, hu, hd, q1, q2⟩ := h
    have ty := hd.ty
    have kt := kit_tu (K := K) d
    try walk_at "go"
    refine ⟨fun c1 => ?_, fun c1 => q2 c1 H (Same.refl _)⟩
    obtain ⟨k, rfl, hk⟩ := net_inv c1
    cases hu.int_inv
    have q := q1 k rfl hk
    clear q1
    try walk_at "go"
    cases e : isTu d with
    | false =>
      rw [e] at kt
      rw [isSe_no e] at q
      try walk_at "go"
      exact q H (Same.refl _)
    | true =>
      rw [e] at kt
      obtain ⟨ds, rfl⟩ := isTu_inv e
      obtain ⟨a, tr, rfl, rfl, ha, htr⟩ := hd.tup_inv
      have lm : (tr.map fun t => t.1).length = tr.length := List.length_map _
      have lm2 : (tr.map fun t => t.2).length = tr.length := List.length_map _
      try walk_at "go"
      by_cases el : tr.length = k
      · refine ifT (by rw [lm, el]; exact decide_eq_true rfl) ?_
        have ql : isSe k (.tuple (tr.map fun t => t.2)) = ((tr.map fun t => isSR k t.2)).all id := by
          rw [all_snd (f := isSR k)]
          show (decide _ && _) = _
          rw [lm2, decide_eq_true el, Bool.true_and]
        rw [ql] at q
        try walk_at "go"
        intro D hD
        refine lc_tup (K := K) (a := a) (xs := tr.map fun t => t.1) (fun i H' => Kept (Same H H' ∧ H' D = some (.lst (((tr.take i).map fun t => isSR k t.2).map V.bl)))) ⟨⟨same_new hD _, upd_same⟩⟩ (fun i H' _ h => SqT.of (h.ex.1 _ _ ha)) ?_ ?_
        · rintro i x H' hx ⟨S1, hD1⟩
          rw [List.getElem?_map] at hx
          obtain ⟨⟨tv, td⟩, ht, rfl⟩ := Option.map_eq_some_iff.mp hx
          have il := (List.getElem?_eq_some_iff.mp ht).1
          have th : Th K p H' tv td := (htr _ (List.mem_of_getElem? ht)).same S1
          have li : (((tr.take i).map fun t => isSR k t.2).map V.bl).length ≤ 16 := by rw [List.length_map, List.length_map, List.length_take]; omega
          have tk : (((tr.take i).map fun t => isSR k t.2).map V.bl) ++ [.bl (isSR k td)] = ((tr.take (i + 1)).map fun t => isSR k t.2).map V.bl := by rw [boolsS, tkS ht]
          have k1 : 1 ≤ k := by omega
          try walk_at "go"
          intro H3 S3
          have hD3 := S3 _ _ hD1
          try walk_at "go"
          exact ⟨⟨but_same hD (S1.trans S3) But.upd, by rw [upd_same, tk]⟩⟩
        rintro H2 ⟨S2, hD2⟩
        rw [lm, List.take_length] at hD2
        try walk_at "go"
        exact q _ S2
      · refine ifF (by rw [lm, decide_eq_false (fun z => el (by have := V.int.inj z; omega))] <;> rfl) ?_
        have ql : isSe k (.tuple (tr.map fun t => t.2)) = false := by
          show (decide _ && _) = _
          rw [lm2, decide_eq_false el, Bool.false_and]
        rw [ql] at q
        try walk_at "go"
        exact q H (Same.refl _)
def spWSN (K : PySem.W.Frag) (C : Addr) : Sp := fun vs H Q E => ∃ (v : V) (d : PyData) (p : Addr) (k : Nat), vs = [.int k, v] ∧ k ≤ 4 ∧ Th K p H v d ∧ (isSe k d = true → ∀ H', Same H H' → Q .non H') ∧ (isSe k d = false → ∀ H', Same H H' → E (.ref C) none H')
theorem k_want_settings (D : Df K mg "want_settings" s_want_settings ["k", "thing"]) (D_is_settings : Dx P w K mg base 4 "is_settings" ["k", "thing"] (spISN K (cAt mg "NoNet"))) : Dx P w K mg base 5 "want_settings" ["k", "thing"] (spWSN K (cAt mg "NoSettings")) := by
  refine D.okX fun f fd F => okGX F sc_want_settings (fun vs H Q E h => ?_) (fun cdv A outer s H vs Q E hr h => ⟨_, (pss_one (ps_if (pt_not (pt_val (pe_cW D_is_settings (hr.less (by decide)) (takes_of rfl rfl rfl rfl) rfl (pa_cons (pv 0) (pa_cons (pv 1) pa_nil)))))
     (pss_one (ps_raise rfl (takes_of rfl rfl rfl rfl) (pmk_own PySem.F.excBase_ValueError B.NoSettings_.ex B.NoSettings_.mg_ B.NoSettings_.kp (raises_own B.NoSettings_.bs B.NoSettings_.tp) rfl)))
     pss_nil)), ?_⟩)
  · obtain ⟨v, d, p, k, rfl, _⟩ := h; rfl
  · obtain ⟨v, d, p, k, rfl, hk, hd, q1, q2⟩ := h
    have hu : Th K p H (.int (k : Nat)) (.int (k : Nat)) := .int _
    try walk_at "go"
    refine ⟨fun k' ek _ H1 S1 => ?_, fun z => absurd z (by rw [isR_mk (by omega) (by omega)]; decide)⟩
    obtain rfl : k = k' := by have := PyData.int.inj ek; omega
    cases e : isSe k d with
    | true =>
      try walk_at "go"
      refine ifF rfl ?_
      try walk_at "go"
      exact q1 e _ S1
    | false =>
      try walk_at "go"
      refine ifT rfl ?_
      exact q2 e _ S1
def spStN (K : PySem.W.Frag) (N : Addr) : Sp := fun vs H Q E => ∃ (u : V) (dk : PyData) (p : Addr), vs = [u] ∧ Th K p H u dk ∧ (∀ k : Nat, dk = .int k → k ≤ 4 → ∀ T H', Same H H' → SeAt H' T k (fun _ _ => 0) → Q (.ref T) H') ∧ (isR dk 0 4 = false → ∀ H', Same H H' → E (.ref N) none H')
theorem k_straight (D : Df K mg "straight" s_straight ["k"]) (D_want_net : DxD P w K mg base 3 "want_net" ["k", "deepest"] [.int 4] (spNetT K (cAt mg "NoNet"))) (D_want_net_all : DxD P w K mg base 3 "want_net" ["k", "deepest"] [] (spNetT K (cAt mg "NoNet"))) (D_plain_rows : Dn P w K mg base 1 "plain_rows" ["k"] spPlain) (D_as_settings : Dn P w K mg base 1 "as_settings" ["rows"] (spAsSe K)) : Dx P w K mg base 4 "straight" ["k"] (spStN K (cAt mg "NoNet")) := by
  refine D.okX fun f fd F => okGX F sc_straight (fun vs H Q E h => ?_) (fun cdv A outer s H vs Q E hr h => ⟨_, (pss_cons (ps_expr (pe_cXd D_want_net (hr.less (by decide)) (takes_of rfl rfl rfl rfl) rfl (pa_cons (pv 0) pa_nil)))
    (pss_one (ps_ret (pe_cD D_as_settings (hr.less (by decide)) rfl (pa_cons (pe_cD D_plain_rows (hr.less (by decide)) rfl (pa_cons (pv 0) pa_nil)) pa_nil))))), ?_⟩)
  · obtain ⟨u, dk, p, rfl, _⟩ := h; rfl
  · obtain ⟨u, dk, p, rfl, hu, q1, q2⟩ := h
    try walk_at "go"
    refine ⟨fun c1 => ?_, fun c1 => q2 c1 H (Same.refl _)⟩
    obtain ⟨k, rfl, hk⟩ := net_inv c1
    cases hu.int_inv
    have q := q1 k rfl hk
    clear q1
    try walk_at "go"
    intro D rs H1 S1 nD oD fr hR
    try walk_at "go"
    intro T H2 S2 hT
    exact q T H2 (S1.trans S2) hT
def wvD : PyData → Int
  | .int i => i
  | _ => 0
omit B in
theorem isR_bit {d : PyData} (h : isR d 0 1 = true) : ∃ i : Int, d = .int i ∧ (i = 0 ∨ i = 1) := by
  obtain ⟨i, e, h1, h2⟩ := isR_inv h
  exact ⟨i, e, by omega⟩
omit B in
theorem row_of {k : Nat} {p : Addr} {H : Hp} {v : V} {d : PyData} (hd : Th K p H v d) (h : isSR k d = true) : ∃ (a : Addr) (xs : List Int), v = .ref a ∧ H a = some (.tup (xs.map V.int)) ∧ xs.length = 2 ^ (k - 1) ∧ (∀ x ∈ xs, x = 0 ∨ x = 1) ∧ d = .tuple (xs.map PyData.int) := by
  cases e : isTu d with
  | false => rw [isSR_no e] at h; cases h
  | true =>
    obtain ⟨ds, rfl⟩ := isTu_inv e
    obtain ⟨a, tr, rfl, rfl, ha, htr⟩ := hd.tup_inv
    have h : (decide ((tr.map fun t => t.2).length = 2 ^ (k - 1)) && (tr.map fun t => t.2).all fun d => isR d 0 1) = true := h
    rw [Bool.and_eq_true, decide_eq_true_iff, List.length_map, List.all_eq_true] at h
    obtain ⟨h1, h2⟩ := h
    have key : ∀ t ∈ tr, ∃ i : Int, t.1 = .int i ∧ t.2 = .int i ∧ (i = 0 ∨ i = 1) := fun t ht => by
      obtain ⟨i, e2, hb⟩ := isR_bit (h2 t.2 (List.mem_map_of_mem ht))
      have := htr t ht
      rw [e2] at this
      exact ⟨i, this.int_inv, e2, hb⟩
    refine ⟨a, tr.map fun t => wvD t.2, rfl, ?_, by rw [List.length_map, h1], fun x hx => ?_, ?_⟩
    · rw [ha, List.map_map]
      congr 2
      refine List.map_congr_left fun t ht => ?_
      obtain ⟨i, e1, e2, _⟩ := key t ht
      show t.1 = V.int (wvD t.2)
      rw [e1, e2] <;> rfl
    · obtain ⟨t, ht, rfl⟩ := List.mem_map.mp hx
      obtain ⟨i, e1, e2, hb⟩ := key t ht
      rw [e2]; exact hb
    · congr 1
      rw [List.map_map]
      refine List.map_congr_left fun t ht => ?_
      obtain ⟨i, e1, e2, _⟩ := key t ht
      show t.2 = PyData.int (wvD t.2)
      rw [e2] <;> rfl
def atD (d : PyData) (n : Nat) : Int := match d with
  | .tuple ds => wvD (ds.getD n .none)
  | _ => 0
def tblD (tr : List (V × PyData)) : Nat → Nat → Int := fun j n => atD ((tr.map fun t => t.2).getD j .none) n
omit B in
theorem se_of {k : Nat} {p : Addr} {H : Hp} {v : V} {d : PyData} (hd : Th K p H v d) (h : isSe k d = true) : ∃ (T : Addr) (s : Nat → Nat → Int), v = .ref T ∧ SeAt H T k s ∧ Bt s := by
  cases e : isTu d with
  | false => rw [isSe_no e] at h; cases h
  | true =>
    obtain ⟨ds, rfl⟩ := isTu_inv e
    obtain ⟨a, tr, rfl, rfl, ha, htr⟩ := hd.tup_inv
    have h : (decide ((tr.map fun t => t.2).length = k) && (tr.map fun t => t.2).all (isSR k)) = true := h
    rw [Bool.and_eq_true, decide_eq_true_iff, List.length_map, List.all_eq_true] at h
    obtain ⟨h1, h2⟩ := h
    have key : ∀ t ∈ tr, ∃ (b : Addr) (xs : List Int), t.1 = .ref b ∧ H b = some (.tup (xs.map V.int)) ∧ xs.length = 2 ^ (k - 1) ∧ (∀ x ∈ xs, x = 0 ∨ x = 1) ∧ t.2 = .tuple (xs.map PyData.int) := fun t ht => row_of (htr t ht) (h2 t.2 (List.mem_map_of_mem ht))
    have es : ∀ (j : Nat) (t : V × PyData) (xs : List Int), tr[j]? = some t → t.2 = .tuple (xs.map PyData.int) → ∀ n, tblD tr j n = xs.getD n 0 := fun j t xs hj e n => by
      unfold tblD
      rw [List.getD_eq_getElem?_getD, List.getElem?_map, hj]
      show atD t.2 n = _
      rw [e]
      show wvD ((xs.map PyData.int).getD n .none) = _
      rw [List.getD_eq_getElem?_getD, List.getElem?_map, List.getD_eq_getElem?_getD]
      cases xs[n]? <;> rfl
    refine ⟨a, tblD tr, rfl, ⟨tr.map fun t => match t.1 with | .ref b => b | _ => 0, ?_, by rw [List.length_map, h1], fun j b hb => ?_⟩, fun j n => ?_⟩
    · rw [ha, List.map_map]
      congr 2
      refine List.map_congr_left fun t ht => ?_
      obtain ⟨b, xs, e1, _⟩ := key t ht
      show t.1 = V.ref (match t.1 with | .ref b => b | _ => 0)
      rw [e1]
    · rw [List.getElem?_map] at hb
      obtain ⟨t, ht, rfl⟩ := Option.map_eq_some_iff.mp hb
      obtain ⟨b, xs, e1, e2, e3, e4, e5⟩ := key t (List.mem_of_getElem? ht)
      rw [e1]
      show H b = _
      rw [e2]
      congr 3
      refine List.ext_getElem? fun n => ?_
      by_cases h3 : n < 2 ^ (k - 1)
      · rw [row_at h3, es j t xs ht e5, List.getD_eq_getElem?_getD, List.getElem?_eq_getElem (by omega)] <;> rfl
      · rw [List.getElem?_eq_none (by omega), List.getElem?_eq_none (by rw [row_len]; omega)]
    · cases ht : tr[j]? with
      | none => exact .inl (by unfold tblD; rw [List.getD_eq_getElem?_getD, List.getElem?_map, ht] <;> rfl)
      | some t =>
        obtain ⟨b, xs, e1, e2, e3, e4, e5⟩ := key t (List.mem_of_getElem? ht)
        rw [es j t xs ht e5 n, List.getD_eq_getElem?_getD]
        cases hx : xs[n]? with
        | none => exact .inl rfl
        | some x => exact e4 x (List.mem_of_getElem? hx)
def spLedN (K : PySem.W.Frag) (N C : Addr) : Sp := fun vs H Q E => ∃ (u v : V) (dk d : PyData) (p : Addr), vs = [u, v] ∧ Th K p H u dk ∧ Th K p H v d ∧ (∀ k : Nat, dk = .int k → k ≤ 4 → isSe k d = true → ∀ T s, v = .ref T → SeAt H T k s → Bt s → ∀ U H', Same H H' → H' U = some (.tup (nV (sdl k fun h => la k s h k))) → Q (.ref U) H') ∧ (isR dk 0 4 = false → ∀ H', Same H H' → E (.ref N) none H') ∧ (∀ k : Nat, dk = .int k → k ≤ 4 → isSe k d = false → ∀ H', Same H H' → E (.ref C) none H')
theorem k_led (D : Df K mg "led" s_led ["k", "settings"]) (D_want_net : DxD P w K mg base 3 "want_net" ["k", "deepest"] [.int 4] (spNetT K (cAt mg "NoNet"))) (D_want_net_all : DxD P w K mg base 3 "want_net" ["k", "deepest"] [] (spNetT K (cAt mg "NoNet"))) (D_want_settings : Dx P w K mg base 5 "want_settings" ["k", "thing"] (spWSN K (cAt mg "NoSettings"))) (D_led_from : Dn P w K mg base 2 "led_from" ["k", "settings", "hand"] (spLedF K)) : Dx P w K mg base 6 "led" ["k", "settings"] (spLedN K (cAt mg "NoNet") (cAt mg "NoSettings")) := by
  refine D.okX fun f fd F => okGX F sc_led (fun vs H Q E h => ?_) (fun cdv A outer s H vs Q E hr h => ⟨_, (pss_cons (ps_expr (pe_cXd D_want_net (hr.less (by decide)) (takes_of rfl rfl rfl rfl) rfl (pa_cons (pv 0) pa_nil)))
    (pss_cons (ps_expr (pe_cW D_want_settings (hr.less (by decide)) (takes_of rfl rfl rfl rfl) rfl (pa_cons (pv 0) (pa_cons (pv 1) pa_nil))))
    (pss_one (ps_ret (pe_callTy (tupOfK (K := K)) (by rfl) B.tuple_ (by decide +kernel) (pa_cons (pe_lc (own := [("hand", 2)]) (g := gName 2) (tt := tYes) rfl sc_led.nd (pi_range1 (by rfl) B.range_ (pa_cons (pe_op op_shlW pe_int (pv 0)) pa_nil)) (blkOk_by (own := [("hand", 2)]) (N := ["k", "settings", "hand"]) (sc := defScope s_led) (by decide +kernel)) (fun _ _ _ _ _ => (pg_name (i := 2) sc_led.nd rfl (Or.inl rfl))) (fun _ _ _ _ _ => pts_nil) (fun _ _ _ _ _ => (pe_cD D_led_from (hr.less (by decide)) rfl (pa_cons (pv 0) (pa_cons (pv 1) (pa_cons (pv 2) pa_nil)))))) pa_nil)))))), ?_⟩)
  · obtain ⟨u, v, dk, d, p, rfl, _⟩ := h; rfl
  · obtain ⟨u, v, dk, d, p, rfl, hu, hd, q1, q2, q3⟩ := h
    try walk_at "go"
    refine ⟨fun c1 => ?_, fun c1 => q2 c1 H (Same.refl _)⟩
    obtain ⟨k, rfl, hk⟩ := net_inv c1
    cases hu.int_inv
    have hsh : CShl 1 (k : Int) := shl_ok (by omega)
    have eL : (1 : Int) * 2 ^ ((k : Nat) : Int).toNat = ((2 ^ k : Nat) : Int) := by rw [Int.one_mul, Int.toNat_natCast]; push_cast; rfl
    have e16 : 2 ^ k ≤ 16 := (Nat.pow_le_pow_right (by decide) hk : 2 ^ k ≤ 2 ^ 4)
    replace q1 := q1 k rfl hk
    try walk_at "go"
    refine ⟨fun e H1 S1 => ?_, q3 k rfl hk⟩
    obtain ⟨T, s, rfl, hS, hb⟩ := se_of hd e
    replace q1 := q1 e T s rfl hS hb
    try walk_at "go"
    intro D hD
    rw [eL, Int.toNat_natCast]
    refine lc_range (lo := 0) (n := 2 ^ k) (fun i H' => Kept (Same H1 H' ∧ H' D = some (.lst (nV ((List.range i).map fun h => la k s h k))))) ⟨⟨same_new hD _, upd_same⟩⟩ ?_ ?_
    · rintro i H2 hi ⟨S2, hD2⟩
      rw [Int.zero_add]
      have hS2 := hS.same (S1.trans S2)
      have ll : (nV ((List.range i).map fun h => la k s h k)).length ≤ 16 := by unfold nV; rw [List.length_map, List.length_map, List.length_range]; omega
      try walk_at "go"
      exact ⟨⟨but_same hD S2 But.upd, by rw [upd_same, nV_snoc, List.range_succ, List.map_append] <;> rfl⟩⟩
    · rintro H2 ⟨S2, hD2⟩
      try walk_at "go"
      intro U hU
      generalize eH3 : upd _ U _ = H3
      have SH3 := newS eH3 hU
      have oU := newO eH3
      exact q1 U _ (S1.trans (S2.trans SH3)) oU
/-! SPLIT -/
omit B in
theorem PurseAt.fre {H : Hp} {p : Addr} {n : Nat} (h : PurseAt H p n) : H p ≠ none := by
  obtain ⟨_, _, _, h1, _⟩ := h
  rw [h1]; exact fun z => by cases z
omit B in
theorem PurseAt.lst {H : Hp} {p : Addr} {n : Nat} (h : PurseAt H p n) : ∃ ys, H p = some (.lst ys) := by
  obtain ⟨_, _, _, h1, _⟩ := h
  exact ⟨_, h1⟩
omit B in
theorem PurseAt.up {H : Hp} {p : Addr} {n m : Nat} (h : PurseAt H p n) (e : n ≤ m) : PurseAt H p m := by
  obtain ⟨a, c, t, h1, h2, h3⟩ := h
  exact ⟨a, c, t, h1, h2, Nat.le_trans h3 e⟩
def spNmT (K : PySem.W.Frag) : Sp := fun vs H Q _ => ∃ (v : V) (d : PyData) (p : Addr), vs = [v] ∧ Th K p H v d ∧ Q (.bl (isWh d)) H
theorem k__law_number (D : Df K mg "_law_number" s__law_number ["_law_thing"]) : Dn P w K mg base 1 "_law_number" ["_law_thing"] (spNmT K) := by
  refine D.ok fun f fd F => okG0 F sc__law_number (fun vs H Q E h => ?_) (fun cdv A outer s H vs Q E hr h => ⟨_, (pss_one (ps_ret (pe_and (pe_callB (kk (K := K) (F := rIsi) (P := CallR _ _) call_isi) (by rfl) B.isinstance_ (by decide +kernel) (pa_cons (pv 0) (pa_cons (pe_bltn (v := .ty "int") (u := .type "int") (by rfl) B.int_ (by decide +kernel) rfl) pa_nil))) (pe_one (pe_not (pe_callB (kk (K := K) (F := rIsi) (P := CallR _ _) call_isi) (by rfl) B.isinstance_ (by decide +kernel) (pa_cons (pv 0) (pa_cons (pe_bltn (v := .ty "bool") (u := .type "bool") (by rfl) B.bool_ (by decide +kernel) rfl) pa_nil)))))))), ?_⟩)
  · obtain ⟨v, d, p, rfl, _⟩ := h; rfl
  · obtain ⟨v, d, p, rfl, hd, q⟩ := h
    have ty := hd.ty
    have k1 := kit_in (K := K) d
    have k2 := kit_bl (K := K) d
    rw [isWh_eq] at q
    generalize isIn d = x at k1 q
    generalize isBl d = y at k2 q
    cases x
    all_goals
      try walk_at "go"
      first | exact q | exact ifF rfl q | exact ifT rfl q
def spWiT (K : PySem.W.Frag) : Sp := fun vs H Q _ => ∃ (v : V) (d : PyData) (p : Addr) (k : Nat), vs = [.int k, v] ∧ k ≤ 4 ∧ Th K p H v d ∧ Q (.bl (isL k d)) H
theorem k__law_within (D : Df K mg "_law_within" s__law_within ["_law_k", "_law_thing"]) (D__law_number : Dn P w K mg base 1 "_law_number" ["_law_thing"] (spNmT K)) : Dn P w K mg base 2 "_law_within" ["_law_k", "_law_thing"] (spWiT K) := by
  refine D.ok fun f fd F => okG0 F sc__law_within (fun vs H Q E h => ?_) (fun cdv A outer s H vs Q E hr h => ⟨_, (pss_one (ps_ret (pe_and (pe_cD D__law_number (hr.less (by decide)) rfl (pa_cons (pv 1) pa_nil)) (pe_one (pe_chain op_le op_lt pe_int (pv 1) (pe_op op_shlW pe_int (pv 0))))))), ?_⟩)
  · obtain ⟨v, d, p, k, rfl, _⟩ := h; rfl
  · obtain ⟨v, d, p, k, rfl, hk, hd, q⟩ := h
    have hsh : CShl 1 (k : Int) := shl_ok (by omega)
    unfold isL at q
    try walk_at "go"
    cases e : isWh d with
    | false =>
      rw [isR_no e] at q
      try walk_at "go"
      exact q
    | true =>
      obtain ⟨i, rfl⟩ := isWh_inv e
      cases hd.int_inv
      replace q : Q (.bl (decide (0 ≤ i) && decide (i ≤ ((2 ^ k : Nat) : Int) - 1))) H := q
      try walk_at "go"
      refine ite2 (fun c => ?_) (fun c => ?_)
      · rw [c, Bool.true_and] at q
        try walk_at "go"
        rw [p2k]
        rw [show decide (i ≤ ((2 ^ k : Nat) : Int) - 1) = decide (i < ((2 ^ k : Nat) : Int)) from decide_eq_decide.mpr (by omega)] at q
        exact q
      · rw [Bool.eq_false_iff.mpr c, Bool.false_and] at q
        try walk_at "go"
        exact q
def spOdd37 (K : PySem.W.Frag) : Sp := fun vs H Q _ => ∃ (p : Addr) (m cap : Nat), vs = [.ref p, .int m] ∧ PurseAt H p cap ∧ cap ≤ 80000 ∧ m ≤ 100 ∧ ∀ v d H', But p H H' → PurseAt H' p (cap + 192) → ThL K (fun a => H a ≠ none) H' v d → Q v H'
theorem k__law_odd (D : Df K mg "_law_odd" s__law_odd ["_law_purse_here", "_law_many"]) (D__law_take : Dn P w K mg base 2 "_law_take" ["_law_purse_here", "_law_many"] (spTakeP K)) : Dn P w K mg base 3 "_law_odd" ["_law_purse_here", "_law_many"] (spOdd37 K) := by
  refine D.ok fun f fd F => okG0 F sc__law_odd (fun vs H Q E h => ?_) (fun cdv A outer s H vs Q E hr h => ⟨_, (pss_cons (ps_set (i := 2) sc__law_odd.nd rfl (Or.inl rfl) (pe_op op_sub (pe_op op_sub (pe_op op_pow pe_int pe_int) pe_int) (pe_cD D__law_take (hr.less (by decide)) rfl (pa_cons (pv 0) (pa_cons (pe_op op_pow pe_int pe_int) pa_nil)))))
    (pss_cons (ps_set (i := 3) sc__law_odd.nd rfl (Or.inl rfl) (pe_cD D__law_take (hr.less (by decide)) rfl (pa_cons (pv 0) (pa_cons pe_int pa_nil))))
    (pss_cons (ps_set (i := 4) sc__law_odd.nd rfl (Or.inl rfl) (pe_lstS (pa_cons (pe_op op_sub (pe_un un_neg pe_int) (pv 3)) (pa_cons (pv 1) (pa_cons (pe_op op_add (pe_op op_add (pv 1) pe_int) (pv 3)) (pa_cons (pv 2) (pa_cons (pe_un un_neg (pv 2)) (pa_cons pe_bl (pa_cons pe_bl (pa_cons pe_non (pa_cons pe_str (pa_cons (pe_tup (pa_cons pe_int pa_nil)) (pa_cons (pe_lstS (pa_cons pe_int pa_nil)) (pa_cons pe_dnewK (pa_cons (pe_tup pa_nil) pa_nil)))))))))))))))
    (pss_one (ps_ret (pe_ix (kk (K := K) (F := rIxL) (P := IxR _) ix_list) (pv 4) (pe_cD D__law_take (hr.less (by decide)) rfl (pa_cons (pv 0) (pa_cons (pe_callB (lenK (K := K)) (by rfl) B.len_ (by decide +kernel) (pa_cons (pv 4) pa_nil)) pa_nil))) (fun _ _ => rfl))))))), ?_⟩)
  · obtain ⟨p, m, cap, rfl, _⟩ := h; rfl
  · obtain ⟨p, m, cap, rfl, hp, hc, hm, q⟩ := h
    have cp : CPow 10 30 := ⟨by decide, by decide, by decide⟩
    have cp9 : CPow 10 9 := ⟨by decide, by decide, by decide⟩
    try walk_at "go"
    intro f0 H1 f1 f2 b1 p1
    try walk_at "go"
    intro n0 H2 n1 n2 b2 p2
    try walk_at "go"
    intro T1 hT1
    generalize eH3 : upd _ T1 _ = H3
    have SH3 := newS eH3 hT1
    have oT1 := newO eH3
    try walk_at "go"
    intro M1 hM1
    generalize eH4 : upd _ M1 _ = H4
    have SH4 := newS eH4 hM1
    have oM1 := newO eH4
    intro s4
    try walk_at "go"
    intro D1 hD1
    generalize eH5 : upd _ D1 _ = H5
    have SH5 := newS eH5 hD1
    have oD1 := newO eH5
    try walk_at "go"
    intro T2 hT2
    generalize eH6 : upd _ T2 _ = H6
    have SH6 := newS eH6 hT2
    have oT2 := newO eH6
    try walk_at "go"
    intro L1 hL1
    generalize eH7 : upd _ L1 _ = H7
    have SH7 := newS eH7 hL1
    have oL1 := newO eH7
    intro s7
    have S37 := SH3.trans (SH4.trans (SH5.trans (SH6.trans SH7)))
    have B2 := b1.trans b2
    have p7 := PurseAt.same B S37 p2
    have nM1p : M1 ≠ p := purse_ne B (PurseAt.same B SH3 p2) hM1
    have nL1p : L1 ≠ p := purse_ne B (PurseAt.same B (SH3.trans (SH4.trans (SH5.trans SH6))) p2) hL1
    have fr1 : ¬ (H M1 ≠ none) := fun z => z ((B2.trans (same_but SH3)).free (purse_ne B (PurseAt.same B SH3 p2) hM1) hM1)
    let tr0 : List (V × PyData) := [(.int (-1 - n0), .int (-1 - n0)), (.int m, .int m), (.int (m + 1 + n0), .int (m + 1 + n0)), (.int (10 ^ Int.toNat 30 - 1 - f0), .int (10 ^ Int.toNat 30 - 1 - f0)), (.int (-(10 ^ Int.toNat 30 - 1 - f0)), .int (-(10 ^ Int.toNat 30 - 1 - f0))), (.bl true, .bool true), (.bl false, .bool false), (.non, .none), (.str "0", .str "0"), (.ref T1, .tuple [.int 0]), (.ref M1, .list [.int 0]), (.ref D1, .dict []), (.ref T2, .tuple [])]
    have oL1' : H7 L1 = some (.lst (tr0.map fun t => t.1)) := oL1
    have lt0 : (tr0.map fun t => t.1).length = 13 := rfl
    have g1 := (SH4.trans (SH5.trans (SH6.trans SH7))) _ _ oT1
    have g2 := (SH5.trans (SH6.trans SH7)) _ _ oM1
    have g3 := (SH6.trans SH7) _ _ oD1
    have g4 := SH7 _ _ oT2
    have all0 : ∀ t ∈ tr0, ThL K (fun a => H a ≠ none) H7 t.1 t.2 := fun t ht => by
      simp only [tr0, List.mem_cons, List.not_mem_nil, or_false] at ht
      rcases ht with rfl | rfl | rfl | rfl | rfl | rfl | rfl | rfl | rfl | rfl | rfl | rfl | rfl
      · exact .int _
      · exact .int _
      · exact .int _
      · exact .int _
      · exact .int _
      · exact .bl _
      · exact .bl _
      · exact .non
      · exact .str _
      · exact ThL.tup (tr := [(.int 0, .int 0)]) g1 fun t ht => by cases List.mem_singleton.mp ht; exact .int _
      · exact ThL.lst (tr := [(.int 0, .int 0)]) fr1 s4 g2 fun t ht => by cases List.mem_singleton.mp ht; exact .int _
      · exact ThL.dct (tr := []) g3 fun t ht => nomatch ht
      · exact ThL.tup (tr := []) g4 fun t ht => nomatch ht
    clear oL1 eH7
    clear_value tr0
    try walk_at "go"
    rw [show (((tr0.map fun t => t.1).length : Nat) : Int) = 13 from by rw [lt0] <;> rfl]
    intro e0 H8 e1 e2 b8 p8
    obtain ⟨e, rfl⟩ : ∃ e : Nat, e0 = (e : Int) := ⟨e0.toNat, by omega⟩
    have el : e < tr0.length := by rw [List.length_map] at lt0; omega
    have ixe : atI (tr0.map fun t => t.1) (e : Int) = some tr0[e].1 := atI_nat (by rw [List.getElem?_map, List.getElem?_eq_getElem el] <;> rfl)
    have the := all0 _ (List.getElem_mem el)
    have oL8 := b8 _ _ nL1p oL1'
    generalize tr0[e] = od at ixe the
    obtain ⟨ov, odt⟩ := od
    try walk_at "go"
    exact q ov odt H8 (B2.trans ((same_but S37).trans b8)) p8 (the.but hp.fre b8 p7.lst.choose_spec)
def spOrO (K : PySem.W.Frag) : Sp := fun vs H Q _ => ∃ (p : Addr) (g : Int) (m cap : Nat), vs = [.ref p, .int g, .int m] ∧ PurseAt H p cap ∧ cap ≤ 79000 ∧ m ≤ 100 ∧ ∀ v d H', But p H H' → PurseAt H' p (cap + 256) → ThL K (fun a => H a ≠ none) H' v d → Q v H'
theorem k__law_or_odd (D : Df K mg "_law_or_odd" s__law_or_odd ["_law_purse_here", "_law_good", "_law_many"]) (D__law_take : Dn P w K mg base 2 "_law_take" ["_law_purse_here", "_law_many"] (spTakeP K)) (D__law_odd : Dn P w K mg base 3 "_law_odd" ["_law_purse_here", "_law_many"] (spOdd37 K)) : Dn P w K mg base 4 "_law_or_odd" ["_law_purse_here", "_law_good", "_law_many"] (spOrO K) := by
  refine D.ok fun f fd F => okG0 F sc__law_or_odd (fun vs H Q E h => ?_) (fun cdv A outer s H vs Q E hr h => ⟨_, (pss_cons (ps_if (pt_cmpR op_eq (pe_cD D__law_take (hr.less (by decide)) rfl (pa_cons (pv 0) (pa_cons pe_int pa_nil))) pe_int (nomark _))
      (pss_one (ps_ret (pe_cD D__law_odd (hr.less (by decide)) rfl (pa_cons (pv 0) (pa_cons (pv 2) pa_nil)))))
      pss_nil)
    (pss_one (ps_ret (pv 1)))), ?_⟩)
  · obtain ⟨p, g, m, cap, rfl, _⟩ := h; rfl
  · obtain ⟨p, g, m, cap, rfl, hp, hc, hm, q⟩ := h
    try walk_at "go"
    intro w0 H1 w1 w2 b1 p1
    try walk_at "go"
    refine ite2 (fun c => ?_) (fun c => ?_)
    · try walk_at "go"
      intro v d H2 b2 p2 th
      exact q v d H2 (b1.trans b2) (p2.up (by omega)) (th.mono fun x hx => by
        cases e : H x with
        | none => exact absurd e hx
        | some o =>
          by_cases xp : x = p
          · rw [xp]; exact p1.fre
          · rw [b1 _ _ xp e]; exact fun z => by cases z)
    · try walk_at "go"
      exact q _ (.int g) H1 b1 (p1.up (by omega)) (.int g)
/-! SPLIT -/
/-! ### the law's own (k35) -/
omit B in
theorem num_figs : ∀ k, k < 5 → ∀ l, l < 2 ^ k → num (figs k l) = (l : Nat) := by decide +kernel
omit B in
theorem fig_set : ∀ k, k < 5 → ∀ l, l < 2 ^ k → ∀ j, j < k → 0 ≤ fig k l j ∧ fig k l j ≤ 1 := by decide +kernel
omit B in
theorem but_keep {p : Addr} {H H' : Hp} {cap : Nat} (b : But p H H') (hp : PurseAt H p cap) : ∀ t xs, H t = some (.tup xs) → H' t = some (.tup xs) := fun t xs e => by
  obtain ⟨_, _, _, h1, _⟩ := hp
  exact b _ _ (ne_of e h1 (by intro z; cases z)) e
omit B in
theorem SeAt.keep {H H' : Hp} {T : Addr} {k : Nat} {s : Nat → Nat → Int} (a : SeAt H T k s) (e : ∀ t xs, H t = some (.tup xs) → H' t = some (.tup xs)) : SeAt H' T k s := by
  obtain ⟨as, h1, h2, h3⟩ := a
  exact ⟨as, e _ _ h1, h2, fun j x hx => e _ _ (h3 j x hx)⟩
omit B in
theorem But.fr {p E : Addr} {H H1 : Hp} {o : HO} (b : But p H H1) (hE : H E = none) : But p H (L2.upd H1 E o) := fun x u n h => by rw [upd_ne (ne_of_none h hE)]; exact b x u n h
/-- one row more -/
def ext (s : Nat → Nat → Int) (i : Nat) (bs : List Int) : Nat → Nat → Int := fun j n => if j = i then bs.getD n 0 else s j n
omit B in
theorem row_ext {k i : Nat} {s : Nat → Nat → Int} {bs : List Int} (h : bs.length = 2 ^ (k - 1)) : row k (ext s i bs) i = bs := by
  refine List.ext_getElem? fun n => ?_
  unfold row
  rw [List.getElem?_map]
  by_cases c : n < 2 ^ (k - 1)
  · rw [List.getElem?_range c]
    show some (ext s i bs i n) = _
    unfold ext
    rw [if_pos rfl, List.getD_eq_getElem?_getD, List.getElem?_eq_getElem (by omega)] <;> rfl
  · rw [List.getElem?_eq_none (by rw [List.length_range]; omega), List.getElem?_eq_none (by omega)] <;> rfl
omit B in
theorem row_ext_ne {k i j : Nat} {s : Nat → Nat → Int} {bs : List Int} (h : j ≠ i) : row k (ext s i bs) j = row k s j := by
  unfold row
  refine List.map_congr_left fun m _ => ?_
  unfold ext
  rw [if_neg h]
omit B in
theorem ext_bt {i : Nat} {s : Nat → Nat → Int} {bs : List Int} (h : Bt s) (hb : ∀ x ∈ bs, x = 0 ∨ x = 1) : Bt (ext s i bs) := fun j n => by
  unfold ext
  split
  · rw [List.getD_eq_getElem?_getD]
    by_cases c : n < bs.length
    · rw [List.getElem?_eq_getElem c]
      exact hb _ (List.getElem_mem c)
    · rw [List.getElem?_eq_none (by omega)]
      exact .inl rfl
  · exact h j n
def spSettS (K : PySem.W.Frag) : Sp := fun vs H Q _ => ∃ (p : Addr) (k cap : Nat), vs = [.ref p, .int k] ∧ k ≤ 4 ∧ PurseAt H p cap ∧ cap ≤ 80000 ∧ ∀ T (s : Tbl) H', But p H H' → PurseAt H' p (cap + 64 * 64) → SeAt H' T k s → Bt s → Q (.ref T) H'
theorem k__law_settings (D : Df K mg "_law_settings" s__law_settings ["_law_purse_here", "_law_k"]) (D__law_take : Dn P w K mg base 2 "_law_take" ["_law_purse_here", "_law_many"] (spTakeP K)) : Dn P w K mg base 3 "_law_settings" ["_law_purse_here", "_law_k"] (spSettS K) := by
  refine D.ok fun f fd F => okG0 F sc__law_settings (fun vs H Q E h => ?_) (fun cdv A outer s H vs Q E hr h => ⟨_, (pss_cons (ps_set (i := 2) sc__law_settings.nd rfl (Or.inl rfl) (pe_lst pa_nil))
    (pss_cons (ps_for PassesOwn.never rfl (pi_range1 (by rfl) B.range_ (pa_cons (pv 1) pa_nil)) (pg_name (i := 3) sc__law_settings.nd rfl (Or.inl rfl))
      (pss_one (ps_expr (kk (K := K) (F := fun K => tBM K "list" _ _ _) (P := PE _ _) (pe_bm PySem.F.plainAttrs_list PySem.F.slot_list_append PySem.F.type_list_append mt_append (pv 2) (pa_cons (pe_callTy (tupOfK (K := K)) (by rfl) B.tuple_ (by decide +kernel) (pa_cons (pe_lc (own := [("_law_number_here", 4)]) (g := gName 4) (tt := tYes) rfl sc__law_settings.nd (pi_range1 (by rfl) B.range_ (pa_cons (pe_op op_shlW pe_int (pe_op op_sub (pv 1) pe_int)) pa_nil)) (blkOk_by (own := [("_law_number_here", 4)]) (N := ["_law_purse_here", "_law_k", "_law_rows", "_law_stage", "_law_number_here"]) (sc := defScope s__law_settings) (by decide +kernel)) (fun _ _ _ _ _ => (pg_name (i := 4) sc__law_settings.nd rfl (Or.inl rfl))) (fun _ _ _ _ _ => pts_nil) (fun _ _ _ _ _ => (pe_cD D__law_take (hr.less (by decide)) rfl (pa_cons (pv 0) (pa_cons pe_int pa_nil))))) pa_nil)) pa_nil))))))
    (pss_one (ps_ret (pe_callTy (tupOfK (K := K)) (by rfl) B.tuple_ (by decide +kernel) (pa_cons (pv 2) pa_nil)))))), ?_⟩)
  · obtain ⟨p, k, cap, rfl, _⟩ := h; rfl
  · obtain ⟨p, k, cap, rfl, hk, hp, hc, q⟩ := h
    try walk_at "go"
    intro D hD
    generalize eH1 : upd _ D _ = H1
    have SH1 := newS eH1 hD
    have oD := newO eH1
    have npD : p ≠ D := Ne.symm (purse_ne B hp hD)
    have hp1 := PurseAt.same B SH1 hp
    try walk_at "go"
    have e5 : ((k : Nat) : Int).toNat = k := by omega
    rw [e5]
    refine for_range (lo := 0) (n := k) (fun i σ H' => Kept (∃ w3 w4 s, ∃ rs : List Addr, σ = [some (.ref p), some (.int (k : Nat)), some (.ref D), w3, w4] ∧ But p H H' ∧ PurseAt H' p (cap + 64 * 8 * i) ∧ H' D = some (.lst (rs.map V.ref)) ∧ rs.length = i ∧ Bt s ∧ ∀ (j : Nat) (r : Addr), rs[j]? = some r → H' r = some (.tup ((row k s j).map V.int)))) ⟨_, _, fun _ _ => 0, [], rfl, same_but SH1, hp1, oD, rfl, fun _ _ => .inl rfl, fun j r h => by simp at h⟩ ?_ ?_
    · rintro i σ H2 hi ⟨w3, w4, s, rs, rfl, B2, hp2, hD2, hrl, hb, hrs⟩
      have e1 : (k : Int) - 1 = ((k - 1 : Nat) : Int) := by omega
      have hsh : CShl 1 ((k : Int) - 1) := by rw [e1]; exact shl_ok (by omega)
      have eL : (1 : Int) * 2 ^ (((k : Nat) : Int) - 1).toNat = ((2 ^ (k - 1) : Nat) : Int) := by rw [Int.one_mul, e1, Int.toNat_natCast]; push_cast; rfl
      have e8 : 2 ^ (k - 1) ≤ 8 := (Nat.pow_le_pow_right (by decide) (by omega) : 2 ^ (k - 1) ≤ 2 ^ 3)
      have ul : (rs.map V.ref).length ≤ 16 := by rw [List.length_map]; omega
      try walk_at "go"
      intro E hE
      rw [eL, Int.toNat_natCast]
      refine lc_range (lo := 0) (n := 2 ^ (k - 1)) (fun j H' => Kept (∃ bs : List Int, But p H2 H' ∧ PurseAt H' p (cap + 64 * 8 * i + 64 * j) ∧ H' E = some (.lst (bs.map V.int)) ∧ bs.length = j ∧ ∀ x ∈ bs, x = 0 ∨ x = 1)) ⟨[], same_but (same_new hE _), PurseAt.same B (same_new hE _) hp2, upd_same, rfl, fun x hx => absurd hx List.not_mem_nil⟩ ?_ ?_
      · rintro j H3 hj ⟨bs, B3, hp3, hE3, hbl, hb3⟩
        try walk_at "go"
        intro d H4 d0 d1 b4 p4
        have npE : p ≠ E := Ne.symm (purse_ne B hp2 hE)
        have hE4 := b4 _ _ (Ne.symm npE) hE3
        have bl : (bs.map V.int).length ≤ 16 := by rw [List.length_map]; omega
        try walk_at "go"
        obtain ⟨a, c, tn, h1, h2, h3⟩ := p4
        refine ⟨⟨bs ++ [d], (B3.trans b4).fr hE, ⟨a, c, tn, by rw [upd_ne npE]; exact h1, h2, by omega⟩, by rw [upd_same, List.map_append] <;> rfl, by rw [List.length_append, hbl] <;> rfl, fun x hx => ?_⟩⟩
        rcases List.mem_append.mp hx with z | z
        · exact hb3 x z
        · rw [List.mem_singleton.mp z]; omega
      · rintro H3 ⟨bs, B3, hp3, hE3, hbl, hb3⟩
        try walk_at "go"
        intro U hU
        generalize eH4 : upd _ U _ = H4
        have SH4 := newS eH4 hU
        have oU := newO eH4
        have hD4 := SH4 _ _ (B3 _ _ (Ne.symm npD) hD2)
        try walk_at "go"
        obtain ⟨a, c, tn, h1, h2, h3⟩ := hp3
        have k2 := but_keep B3 hp2
        have tk : ∀ r xs, H4 r = some (.tup xs) → upd H4 D (.lst (rs.map V.ref ++ [.ref U])) r = some (.tup xs) := fun r xs e => by rw [upd_ne (ne_of e hD4 (by intro z; cases z))]; exact e
        refine ⟨⟨_, _, ext s i bs, rs ++ [U], rfl, (B2.trans (B3.trans (same_but SH4))).fr hD, ⟨a, c, tn, by rw [upd_ne npD]; exact SH4 _ _ h1, h2, by omega⟩, by rw [upd_same, List.map_append] <;> rfl, by rw [List.length_append, hrl] <;> rfl, ext_bt hb hb3, fun j r hr => ?_⟩⟩
        by_cases cc : j < rs.length
        · rw [List.getElem?_append_left cc] at hr
          rw [row_ext_ne (by omega)]
          exact tk _ _ (SH4 _ _ (k2 _ _ (hrs j r hr)))
        · rw [List.getElem?_append_right (by omega)] at hr
          have hj : j = i := by
            have := (List.getElem?_eq_some_iff.mp hr).1
            have h5 : [U].length = 1 := rfl
            omega
          subst hj
          rw [hrl, Nat.sub_self] at hr
          cases (Option.some.inj hr)
          rw [row_ext hbl]
          exact tk _ _ oU
    · rintro σ H2 ⟨w3, w4, s, rs, rfl, B2, hp2, hD2, hrl, hb, hrs⟩
      try walk_at "go"
      intro U hU
      generalize eH3 : upd _ U _ = H3
      have SH3 := newS eH3 hU
      have oU := newO eH3
      obtain ⟨a, c, tn, h1, h2, h3⟩ := hp2
      exact q U s _ (B2.trans (same_but SH3)) ⟨a, c, tn, SH3 _ _ h1, h2, by omega⟩ ⟨rs, oU, hrl, fun j r hr => SH3 _ _ (hrs j r hr)⟩ hb
def spPutR : Sp := fun vs H Q _ => ∃ (R : Addr) (xs : List V) (n : Nat) (v : V), vs = [.ref R, .int n, v] ∧ H R = some (.tup xs) ∧ n < xs.length ∧ xs.length ≤ 20 ∧ ∀ T H', Same H H' → H' T = some (.tup (xs.take n ++ [v] ++ xs.drop (n + 1))) → Q (.ref T) H'
theorem k__law_put (D : Df K mg "_law_put" s__law_put ["_law_row", "_law_at", "_law_thing"]) : Dn P w K mg base 1 "_law_put" ["_law_row", "_law_at", "_law_thing"] spPutR := by
  refine D.ok fun f fd F => okG0 F sc__law_put (fun vs H Q E h => ?_) (fun cdv A outer s H vs Q E hr h => ⟨_, (pss_one (ps_ret (pe_op op_catU (pe_op op_catU (pe_slice sl_tupU (pv 0) po_none (po_some (pv 1))) (pe_tup (pa_cons (pv 2) pa_nil))) (pe_slice sl_tupU (pv 0) (po_some (pe_op op_add (pv 1) pe_int)) po_none)))), ?_⟩)
  · obtain ⟨R, xs, n, v, rfl, _⟩ := h; rfl
  · obtain ⟨R, xs, n, v, rfl, hR, hn, hx, q⟩ := h
    try walk_at "go"
    intro A H1 S1 oA
    rw [cut_to] at oA
    have hR1 := S1 _ _ hR
    try walk_at "go"
    intro C hC
    generalize eH2 : upd _ C _ = H2
    have SH2 := newS eH2 hC
    have oC := newO eH2
    have oA2 := SH2 _ _ oA
    have l1 : (xs.take n).length + [v].length ≤ sizeLine := by rw [List.length_take]; exact small (by show min n xs.length + 1 ≤ 1000; omega)
    try walk_at "go"
    intro D H3 S3 oD
    have hR3 := S3 _ _ (SH2 _ _ hR1)
    have e1 : (n : Int) + 1 = ((n + 1 : Nat) : Int) := by omega
    try walk_at "go"
    intro E H4 S4 oE
    rw [e1, cut_from] at oE
    have oD4 := S4 _ _ oD
    have l2 : (xs.take n ++ [v]).length + (xs.drop (n + 1)).length ≤ sizeLine := by rw [List.length_append, List.length_take, List.length_drop]; exact small (by show min n xs.length + 1 + (xs.length - (n + 1)) ≤ 1000; omega)
    try walk_at "go"
    intro F H5 S5 oF
    exact q F H5 (S1.trans (SH2.trans (S3.trans (S4.trans S5)))) oF
def rDictP (K : PySem.W.Frag) : List V → Hp → VK → Prop := fun xs H Q => ∃ (a : Addr) (ps : List Addr) (kvs : List (Key × V)), xs = [.ref a] ∧ SqL K H a (ps.map V.ref) ∧ Paired (fun p kv => SqT K H p [kV kv.1, kv.2]) ps kvs ∧ ∀ p, H p = none → Q (.ref p) (L2.upd H p (.dK (mergeK [] kvs)))
/-- ints as things -/
def iT (xs : List Int) : List (V × PyData) := xs.map fun x => (.int x, .int x)
omit B in
theorem iT_v {xs : List Int} : (iT xs).map (fun t => t.1) = xs.map V.int := by unfold iT; rw [List.map_map] <;> rfl
omit B in
theorem iT_th {K : PySem.W.Frag} {S : Addr → Prop} {H : Hp} {xs : List Int} : ∀ t ∈ iT xs, ThL K S H t.1 t.2 := fun t ht => by
  obtain ⟨x, _, rfl⟩ := List.mem_map.mp ht
  exact .int x
omit B in
theorem putK_all {P : Key × V → Prop} {acc : List (Key × V)} {k : Key} {v : V} (h : ∀ x ∈ acc, P x) (hp : P (k, v)) : ∀ x ∈ putK acc k v, P x := fun x hx => by
  unfold putK at hx
  split at hx
  · obtain ⟨y, hy, rfl⟩ := List.mem_map.mp hx
    by_cases c : y.1 = k
    · rw [if_pos c, c]; exact hp
    · rw [if_neg c]; exact h y hy
  · rcases List.mem_append.mp hx with hx | hx
    · exact h x hx
    · cases List.mem_singleton.mp hx; exact hp
omit B in
theorem mergeK_all {P : Key × V → Prop} : ∀ (more acc : List (Key × V)), (∀ x ∈ acc, P x) → (∀ x ∈ more, P x) → ∀ x ∈ mergeK acc more, P x
  | [], acc, h, _ => h
  | (k, v) :: r, acc, h, g => mergeK_all r (putK acc k v) (putK_all h (g _ List.mem_cons_self)) fun x hx => g x (List.mem_cons_of_mem _ hx)
omit B in
theorem dct_of {K : PySem.W.Frag} {S : Addr → Prop} {H : Hp} {a : Addr} : ∀ {kvs : List (Key × V)}, (∀ x ∈ kvs, ∃ (i : Int) (d : PyData), x.1 = Sum.inl i ∧ ThL K S H x.2 d) → ∃ tr : List (Int × V × PyData), kvs = tr.map (fun t => (Sum.inl t.1, t.2.1)) ∧ ∀ t ∈ tr, ThL K S H t.2.1 t.2.2
  | [], _ => ⟨[], rfl, fun t ht => nomatch ht⟩
  | (k, v) :: r, h => by
    obtain ⟨tr, e, g⟩ := dct_of (a := a) (kvs := r) fun x hx => h x (List.mem_cons_of_mem _ hx)
    obtain ⟨i, d, e1, th⟩ := h _ List.mem_cons_self
    refine ⟨(i, v, d) :: tr, ?_, fun t ht => ?_⟩
    · rw [List.map_cons, ← e]
      have e1 : k = Sum.inl i := e1
      rw [e1]
    · rcases List.mem_cons.mp ht with rfl | ht
      · exact th
      · exact g t ht
omit B in
theorem ThL.tupv {K : PySem.W.Frag} {S : Addr → Prop} {H : Hp} {T : Addr} {xs : List V} (h : H T = some (.tup xs)) (g : ∃ tr : List (V × PyData), xs = tr.map (fun t => t.1) ∧ ∀ t ∈ tr, ThL K S H t.1 t.2) : ∃ d, ThL K S H (.ref T) d := by
  obtain ⟨tr, rfl, g⟩ := g
  exact ⟨_, .tup h g⟩
omit B in
theorem paired_of {α β : Type} {F : α → β → Prop} : ∀ {as : List α} {bs : List β}, as.length = bs.length → (∀ (i : Nat) (a : α) (b : β), as[i]? = some a → bs[i]? = some b → F a b) → Paired F as bs
  | [], [], _, _ => .nil
  | [], _ :: _, h, _ => by simp at h
  | _ :: _, [], h, _ => by simp at h
  | a :: as, b :: bs, h, q => .cons (q 0 a b rfl rfl) (paired_of (by simpa using h) fun i x y h1 h2 => q (i + 1) x y (by simpa using h1) (by simpa using h2))
omit B in
theorem se_tr {H : Hp} {T : Addr} {k : Nat} {s : Nat → Nat → Int} (h : SeAt H T k s) : ∃ tr : List (V × PyData), H T = some (.tup (tr.map fun t => t.1)) ∧ tr.length = k ∧ (∀ (K : PySem.W.Frag) (S : Addr → Prop), ∀ t ∈ tr, ThL K S H t.1 t.2) ∧ (∀ (j : Nat), j < k → ∃ r : Addr, tr[j]? = some (V.ref r, .tuple ((row k s j).map PyData.int)) ∧ H r = some (.tup ((row k s j).map V.int))) := by
  obtain ⟨as, h1, h2, h3⟩ := h
  have ix : ∀ j, j < k → ((List.range k).map fun j => (V.ref (as.getD j 0), PyData.tuple ((row k s j).map PyData.int)))[j]? = some (V.ref (as.getD j 0), .tuple ((row k s j).map PyData.int)) := fun j hj => by rw [List.getElem?_map, List.getElem?_range hj] <;> rfl
  have rw_ : ∀ j, j < k → H (as.getD j 0) = some (.tup ((row k s j).map V.int)) := fun j hj => by
    have e : as[j]? = some as[j] := List.getElem?_eq_getElem (by omega)
    rw [List.getD_eq_getElem?_getD, e]
    exact h3 j _ e
  refine ⟨(List.range k).map fun j => (V.ref (as.getD j 0), .tuple ((row k s j).map PyData.int)), ?_, by rw [List.length_map, List.length_range], fun K S t ht => ?_, fun j hj => ⟨as.getD j 0, ix j hj, rw_ j hj⟩⟩
  · rw [h1, List.map_map]
    congr 2
    refine List.ext_getElem? fun j => ?_
    rw [List.getElem?_map, List.getElem?_map]
    by_cases hj : j < k
    · rw [List.getElem?_range hj, List.getElem?_eq_getElem (by omega)]
      show some (V.ref as[j]) = some (V.ref (as.getD j 0))
      rw [List.getD_eq_getElem?_getD, List.getElem?_eq_getElem (by omega)] <;> rfl
    · rw [List.getElem?_eq_none (by omega), List.getElem?_eq_none (by rw [List.length_range]; omega)] <;> rfl
  · obtain ⟨j, hj, rfl⟩ := List.mem_map.mp ht
    have hj := List.mem_range.mp hj
    have := ThL.tup (K := K) (S := S) (H := H) (a := as.getD j 0) (tr := iT (row k s j)) (by rw [rw_ j hj, iT_v]) iT_th
    have e2 : (iT (row k s j)).map (fun t => t.2) = (row k s j).map PyData.int := by unfold iT; rw [List.map_map] <;> rfl
    rw [e2] at this
    exact this
/-- some addresses that stand, the purse among them -/
structure SetOf (S : Addr → Prop) (p : Addr) (H : Hp) : Prop where
  p_ : S p
  fr : ∀ a, S a → H a ≠ none
def spBR37 (K : PySem.W.Frag) : Sp := fun vs H Q _ => ∃ (p R : Addr) (v : V) (d : PyData) (tr : List (V × PyData)) (cap : Nat), vs = [.ref p, .ref R, v] ∧ PurseAt H p cap ∧ cap ≤ 79000 ∧ H R = some (.tup (tr.map fun t => t.1)) ∧ tr.length ≤ 20 ∧ ∃ S : Addr → Prop, SetOf S p H ∧ (∀ t ∈ tr, ThL K S H t.1 t.2) ∧ ThL K S H v d ∧ ∀ v' d' H', But p H H' → PurseAt H' p (cap + 192) → ThL K S H' v' d' → (∀ ds, d' = .tuple ds → ds.length ≤ 40) → Q v' H'
theorem k__law_bad_row (D : Df K mg "_law_bad_row" s__law_bad_row ["_law_purse_here", "_law_row", "_law_thing"]) (D__law_take : Dn P w K mg base 2 "_law_take" ["_law_purse_here", "_law_many"] (spTakeP K)) (D__law_put : Dn P w K mg base 1 "_law_put" ["_law_row", "_law_at", "_law_thing"] spPutR) : Dn P w K mg base 3 "_law_bad_row" ["_law_purse_here", "_law_row", "_law_thing"] (spBR37 K) := by
  refine D.ok fun f fd F => okG0 F sc__law_bad_row (fun vs H Q E h => ?_) (fun cdv A outer s H vs Q E hr h => ⟨_, (pss_cons (ps_set (i := 3) sc__law_bad_row.nd rfl (Or.inl rfl) (pe_cD D__law_take (hr.less (by decide)) rfl (pa_cons (pv 0) (pa_cons pe_int pa_nil))))
    (C8.pss_cut (ps_if (PW.pt (pw_and (pt_cmpR op_lt (pv 3) pe_int (nomark _)) (pw_and1 (pt_cmpR (kk (K := K) (F := rNeNilT) (P := OpR _ _) (op_neNilT hr.units)) (pv 1) (pe_tup pa_nil) (nomark _)))))
      (pss_one (ps_ret (pe_cD D__law_put (hr.less (by decide)) rfl (pa_cons (pv 1) (pa_cons (pe_cD D__law_take (hr.less (by decide)) rfl (pa_cons (pv 0) (pa_cons (pe_callB (lenK (K := K)) (by rfl) B.len_ (by decide +kernel) (pa_cons (pv 1) pa_nil)) pa_nil))) (pa_cons (pv 2) pa_nil))))))
      pss_nil)
    (pss_cons (ps_set (i := 4) sc__law_bad_row.nd rfl (Or.inl rfl) (pe_callTy (kk (K := K) (F := fun K => rDictP K) (P := CallR _ _) (call_dictP rfl)) (by rfl) B.dict_ (by decide +kernel) (pa_cons (pe_lc (own := [("_law_place", 5)]) (g := gName 5) (tt := tYes) rfl sc__law_bad_row.nd (pi_range1 (by rfl) B.range_ (pa_cons (pe_callB (lenK (K := K)) (by rfl) B.len_ (by decide +kernel) (pa_cons (pv 1) pa_nil)) pa_nil)) (blkOk_by (own := [("_law_place", 5)]) (N := ["_law_purse_here", "_law_row", "_law_thing", "_law_turn", "_law_alike", "_law_place"]) (sc := defScope s__law_bad_row) (by decide +kernel)) (fun _ _ _ _ _ => (pg_name (i := 5) sc__law_bad_row.nd rfl (Or.inl rfl))) (fun _ _ _ _ _ => pts_nil) (fun _ _ _ _ _ => (pe_tup (pa_cons (pv 5) (pa_cons pe_int pa_nil))))) pa_nil)))
    (pss_one (ps_ret (pe_ix (kk (K := K) (F := rIxL) (P := IxR _) ix_list) (pe_lstS (pa_cons (pe_op op_catU (pv 1) (pe_tup (pa_cons (pv 2) pa_nil))) (pa_cons (pe_slice sl_tupU (pv 1) (po_some pe_int) po_none) (pa_cons (pe_callTy (lstOfS (K := K)) (by rfl) B.list_ (by decide +kernel) (pa_cons (pv 1) pa_nil)) (pa_cons pe_non (pa_cons (pe_op op_catU (pv 1) (pv 1)) (pa_cons (pe_op op_mulS pe_str (pe_callB (lenK (K := K)) (by rfl) B.len_ (by decide +kernel) (pa_cons (pv 1) pa_nil))) (pa_cons (pv 4) pa_nil)))))))) (pe_cD D__law_take (hr.less (by decide)) rfl (pa_cons (pv 0) (pa_cons pe_int pa_nil))) (fun _ _ => rfl))))))), ?_⟩)
  · obtain ⟨p, R, v, d, tr, cap, rfl, _⟩ := h; rfl
  · obtain ⟨p, R, v, d, tr, cap, rfl, hp, hc, hR, hl, S, ⟨hS, hSn⟩, htr, hv, q⟩ := h
    have lm : (tr.map fun t => t.1).length = tr.length := List.length_map _
    try walk_at "go"
    intro w0 H1 w1 w2 b1 p1
    have end_ : ∀ (T : Addr) (tr' : List (V × PyData)) (H' : Hp), But p H H' → PurseAt H' p (cap + 192) → H' T = some (.tup (tr'.map fun t => t.1)) → (∀ t ∈ tr', ThL K S H' t.1 t.2) → tr'.length ≤ 40 → Q (.ref T) H' := fun T tr' H' be pe h g l => q _ _ H' be pe (ThL.tup h g) fun ds e => by cases e; rw [List.length_map]; exact l
    have th1 : ∀ t ∈ tr, ∀ H', But p H H' → ThL K S H' t.1 t.2 := fun t ht H' be => (htr t ht).but hS be hp.lst.choose_spec
    have hv1 : ∀ H', But p H H' → ThL K S H' v d := fun H' be => hv.but hS be hp.lst.choose_spec
    have hR1 := but_keep b1 hp _ _ hR
    have l20 : (tr.map fun t => t.1).length ≤ 20 := by omega
    refine ⟨fun σ H' => Kept (σ = [some (.ref p), some (.ref R), some v, some (.int w0), none, none] ∧ But p H H' ∧ PurseAt H' p (cap + 64)), ?_, ?_⟩
    · try walk_at "go"
      refine ite2 (fun c => ?_) (fun c => ?_)
      · try walk_at "go"
        intro Z0 hZ0
        generalize eH2 : upd _ Z0 _ = H2
        have SH2 := newS eH2 hZ0
        have oZ0 := newO eH2
        have hR2 := SH2 _ _ hR1
        have p2 := PurseAt.same B SH2 p1
        try walk_at "go"
        refine ite2 (fun c2 => ?_) (fun c2 => ?_)
        · have l1 : 1 ≤ (tr.map fun t => t.1).length := by
            cases tr with
            | nil => exact absurd c2 (by decide)
            | cons t r => rw [lm]; exact Nat.succ_le_succ (Nat.zero_le _)
          try walk_at "go"
          intro a0 H3 a1 a2 b3 p3
          obtain ⟨a, rfl⟩ : ∃ a : Nat, a0 = (a : Int) := ⟨a0.toNat, by omega⟩
          have hR3 := but_keep b3 p2 _ _ hR2
          have al : a < (tr.map fun t => t.1).length := by omega
          try walk_at "go"
          intro T H4 S4 oT
          have B4 : But p H H4 := b1.trans ((same_but SH2).trans (b3.trans (same_but S4)))
          refine end_ T (tr.take a ++ [(v, d)] ++ tr.drop (a + 1)) H4 B4 ((PurseAt.same B S4 p3).up (by omega)) (by rw [oT, List.map_append, List.map_append, List.map_take, List.map_drop] <;> rfl) (fun t ht => ?_) (by rw [List.length_append, List.length_append, List.length_take, List.length_drop]; show _ + 1 + _ ≤ 40; omega)
          rcases List.mem_append.mp ht with ht | ht
          · rcases List.mem_append.mp ht with ht | ht
            · exact th1 t (List.mem_of_mem_take ht) _ B4
            · cases List.mem_singleton.mp ht
              exact hv1 _ B4
          · exact th1 t (List.mem_of_mem_drop ht) _ B4
        · try walk_at "go"
          exact ⟨⟨rfl, b1.trans (same_but SH2), p2⟩⟩
      · try walk_at "go"
        exact ⟨⟨rfl, b1, p1⟩⟩
    rintro _ H2 ⟨rfl, b2, p2⟩
    have hR2 := but_keep b2 hp _ _ hR
    try walk_at "go"
    intro D hD
    rw [Int.toNat_natCast, lm]
    refine lc_range (lo := 0) (n := tr.length) (fun i H' => Kept (∃ us : List Addr, Same H2 H' ∧ H' D = some (.lst (us.map V.ref)) ∧ us.length = i ∧ ∀ (j : Nat) (u : Addr), us[j]? = some u → H' u = some (.tup [.int j, .int 0]))) ⟨⟨[], same_new hD _, upd_same, rfl, fun j u h => by simp at h⟩⟩ ?_ ?_
    · rintro i H8 hi ⟨us, S8, oD, lu, hu⟩
      rw [Int.zero_add]
      have lul : (us.map V.ref).length ≤ 20 := by rw [List.length_map]; omega
      try walk_at "go"
      intro U hU
      generalize eH9 : upd _ U _ = H9
      have SH9 := newS eH9 hU
      have oU := newO eH9
      have oD9 := SH9 _ _ oD
      try walk_at "go"
      refine ⟨⟨us ++ [U], but_same hD (S8.trans SH9) But.upd, by rw [upd_same, List.map_append] <;> rfl, by rw [List.length_append, lu] <;> rfl, fun j u h => ?_⟩⟩
      have tk : ∀ r ys, H9 r = some (.tup ys) → L2.upd H9 D (.lst (us.map V.ref ++ [.ref U])) r = some (.tup ys) := fun r ys z => by rw [upd_ne (ne_of z oD9 (by intro w; cases w))]; exact z
      by_cases cc : j < us.length
      · rw [List.getElem?_append_left cc] at h
        exact tk _ _ (SH9 _ _ (hu j u h))
      · rw [List.getElem?_append_right (by omega)] at h
        have hj : j = i := by
          have := (List.getElem?_eq_some_iff.mp h).1
          have h5 : [U].length = 1 := rfl
          omega
        subst hj
        rw [lu, Nat.sub_self] at h
        cases (Option.some.inj h)
        exact tk _ _ oU
    rintro H3 ⟨us, S3, oD, lu, hu⟩
    have prd : Paired (fun (p : Addr) (kv : Key × V) => SqT K H3 p [kV kv.1, kv.2]) us ((List.range tr.length).map fun (i : Nat) => ((Sum.inl (i : Int) : Key), V.int 0)) := by
      refine paired_of (by rw [List.length_map, List.length_range, lu]) fun i u kv h1 h2 => ?_
      have il : i < tr.length := by have := (List.getElem?_eq_some_iff.mp h1).1; omega
      rw [List.getElem?_map, List.getElem?_range il] at h2
      cases (Option.some.inj h2)
      exact SqT.of (hu i u h1)
    have hR3 := S3 _ _ hR2
    try walk_at "go"
    intro U6 nU6
    generalize eU6 : upd H3 U6 _ = H4
    have S4 := newS eU6 nU6
    have oU6 := newO eU6
    obtain ⟨dtr, edt, dth⟩ : ∃ tz : List (Int × V × PyData), mergeK [] ((List.range tr.length).map fun (i : Nat) => ((Sum.inl (i : Int) : Key), V.int 0)) = tz.map (fun t => (Sum.inl t.1, t.2.1)) ∧ ∀ t ∈ tz, ThL K S H4 t.2.1 t.2.2 := by
      refine dct_of (a := U6) (mergeK_all (P := fun x => ∃ (i : Int) (d : PyData), x.1 = Sum.inl i ∧ ThL K S H4 x.2 d) _ _ (fun x hx => nomatch hx) fun x hx => ?_)
      obtain ⟨i, _, rfl⟩ := List.mem_map.mp hx
      exact ⟨_, .int 0, rfl, .int 0⟩
    rw [edt] at oU6
    have thD : ThL K S H4 (.ref U6) (.dict (dtr.map fun t => (.int t.1, t.2.2))) := .dct oU6 dth
    have hR4 := S4 _ _ hR3
    try walk_at "go"
    intro C5 hC5
    generalize eH5 : upd _ C5 _ = H5
    have SH5 := newS eH5 hC5
    have oC5 := newO eH5
    have lq : (tr.map fun t => t.1).length + [v].length ≤ sizeLine := small (by show _ + 1 ≤ 1000; omega)
    have hR5 := SH5 _ _ hR4
    try walk_at "go"
    intro E1 H6 S6 oE1
    have hR6 := S6 _ _ hR5
    try walk_at "go"
    intro F1 H7 S7 oF1
    rw [show (1 : Int) = ((1 : Nat) : Int) from rfl, cut_from] at oF1
    have hR7 := S7 _ _ hR6
    try walk_at "go"
    intro L5 hL5
    generalize eH8 : upd _ L5 _ = H8
    have SH8 := newS eH8 hL5
    have oL5 := newO eH8
    intro s8
    have hR8 := SH8 _ _ hR7
    have lq2 : (tr.map fun t => t.1).length + (tr.map fun t => t.1).length ≤ sizeLine := small (by omega)
    try walk_at "go"
    intro G1 H9 S9 oG1
    have hR9 := S9 _ _ hR8
    try walk_at "go"
    intro rt
    try walk_at "go"
    intro L6 hL6
    generalize eH10 : upd _ L6 _ = H10
    have SH10 := newS eH10 hL6
    have oL6 := newO eH10
    intro s10
    have S210 := S3.trans (S4.trans (SH5.trans (S6.trans (S7.trans (SH8.trans (S9.trans SH10))))))
    have p10 := PurseAt.same B S210 p2
    try walk_at "go"
    intro b0 H11 b01 b02 b11 p11
    obtain ⟨b, rfl⟩ : ∃ b : Nat, b0 = (b : Int) := ⟨b0.toNat, by omega⟩
    have B10 := b2.trans (same_but S210)
    have B11 := B10.trans b11
    have fr5 : ¬ S L5 := fun z => hSn _ z ((b2.trans (same_but (S3.trans (S4.trans (SH5.trans (S6.trans S7)))))).free (purse_ne B (PurseAt.same B (S3.trans (S4.trans (SH5.trans (S6.trans S7)))) p2) hL5) hL5)
    have nL6p : L6 ≠ p := purse_ne B (PurseAt.same B (S3.trans (S4.trans (SH5.trans (S6.trans (S7.trans (SH8.trans S9)))))) p2) hL6
    have S410 := SH5.trans (S6.trans (S7.trans (SH8.trans (S9.trans SH10))))
    have oE10 := (S7.trans (SH8.trans (S9.trans SH10))) _ _ oE1
    have oF10 := (SH8.trans (S9.trans SH10)) _ _ oF1
    have oL10 := (S9.trans SH10) _ _ oL5
    have oG10 := SH10 _ _ oG1
    have t10 : ∀ t ∈ tr, ThL K S H10 t.1 t.2 := fun t ht => th1 t ht _ B10
    have tv10 := hv1 _ B10
    have tE : ThL K S H10 (.ref E1) (.tuple ((tr ++ [(v, d)]).map fun t => t.2)) := ThL.tup (by rw [oE10, List.map_append] <;> rfl) fun t ht => by
      rcases List.mem_append.mp ht with ht | ht
      · exact t10 t ht
      · cases List.mem_singleton.mp ht
        exact tv10
    have tF : ThL K S H10 (.ref F1) (.tuple ((tr.drop 1).map fun t => t.2)) := ThL.tup (by rw [oF10, List.map_drop]) fun t ht => t10 t (List.mem_of_mem_drop ht)
    have tL : ThL K S H10 (.ref L5) (.list (tr.map fun t => t.2)) := ThL.lst fr5 s8 oL10 t10
    have tG : ThL K S H10 (.ref G1) (.tuple ((tr ++ tr).map fun t => t.2)) := ThL.tup (by rw [oG10, List.map_append]) fun t ht => by
      rcases List.mem_append.mp ht with ht | ht <;> exact t10 t ht
    have tD := thD.same S410
    let tr0 : List (V × PyData) := [(.ref E1, .tuple ((tr ++ [(v, d)]).map fun t => t.2)), (.ref F1, .tuple ((tr.drop 1).map fun t => t.2)), (.ref L5, .list (tr.map fun t => t.2)), (.non, .none), (.ref G1, .tuple ((tr ++ tr).map fun t => t.2)), (.str rt, .str rt), (.ref U6, .dict (dtr.map fun t => (.int t.1, t.2.2)))]
    have oL6' : H11 L6 = some (.lst (tr0.map fun t => t.1)) := b11 _ _ nL6p oL6
    have all0 : ∀ t ∈ tr0, ThL K S H10 t.1 t.2 ∧ ∀ ds, t.2 = .tuple ds → ds.length ≤ 40 := fun t ht => by
      simp only [tr0, List.mem_cons, List.not_mem_nil, or_false] at ht
      rcases ht with rfl | rfl | rfl | rfl | rfl | rfl | rfl
      · exact ⟨tE, fun ds e => by cases e; rw [List.length_map, List.length_append]; show _ + 1 ≤ 40; omega⟩
      · exact ⟨tF, fun ds e => by cases e; rw [List.length_map, List.length_drop]; omega⟩
      · exact ⟨tL, fun ds e => by cases e⟩
      · exact ⟨.non, fun ds e => by cases e⟩
      · exact ⟨tG, fun ds e => by cases e; rw [List.length_map, List.length_append]; omega⟩
      · exact ⟨.str _, fun ds e => by cases e⟩
      · exact ⟨tD, fun ds e => by cases e⟩
    have el : b < tr0.length := by show b < 7; omega
    have ixe : atI (tr0.map fun t => t.1) (b : Int) = some tr0[b].1 := atI_nat (by rw [List.getElem?_map, List.getElem?_eq_getElem el] <;> rfl)
    have the := all0 _ (List.getElem_mem el)
    clear oL6 eH10
    generalize tr0[b] = od at ixe the
    obtain ⟨ov, odt⟩ := od
    clear_value tr0
    try walk_at "go"
    exact q ov odt H11 B11 (p11.up (by omega)) (the.1.but hS b11 p10.lst.choose_spec) the.2
/-! SPLIT -/
omit B in
theorem but_fre {p : Addr} {H H1 : Hp} {c : Nat} (b : But p H H1) (hp : PurseAt H1 p c) : ∀ x, H x ≠ none → H1 x ≠ none := fun x hx => by
  cases e : H x with
  | none => exact absurd e hx
  | some o =>
    by_cases xp : x = p
    · rw [xp]; exact hp.fre
    · rw [b _ _ xp e]; exact fun z => by cases z
def spPairs37 (K : PySem.W.Frag) : Sp := fun vs H Q _ => ∃ (p : Addr) (k cap : Nat), vs = [.ref p, .int k] ∧ k ≤ 4 ∧ PurseAt H p cap ∧ cap ≤ 70000 ∧ ∀ v d H', But p H H' → PurseAt H' p (cap + 5000) → ThL K (fun a => H a ≠ none) H' v d → (psD d).length ≤ 100 → Q v H'
theorem k__law_pairs (D : Df K mg "_law_pairs" s__law_pairs ["_law_purse_here", "_law_k"]) (D__law_take : Dn P w K mg base 2 "_law_take" ["_law_purse_here", "_law_many"] (spTakeP K)) (D__law_or_odd : Dn P w K mg base 4 "_law_or_odd" ["_law_purse_here", "_law_good", "_law_many"] (spOrO K)) (D__law_bad_row : Dn P w K mg base 3 "_law_bad_row" ["_law_purse_here", "_law_row", "_law_thing"] (spBR37 K)) : Dn P w K mg base 5 "_law_pairs" ["_law_purse_here", "_law_k"] (spPairs37 K) := by
  refine D.ok fun f fd F => okG0 F sc__law_pairs (fun vs H Q E h => ?_) (fun cdv A outer s H vs Q E hr h => ⟨_, (pss_cons (ps_set (i := 2) sc__law_pairs.nd rfl (Or.inl rfl) (pe_op op_shlW pe_int (pv 1)))
    (pss_cons (ps_set (i := 3) sc__law_pairs.nd rfl (Or.inl rfl) (pe_cD D__law_take (hr.less (by decide)) rfl (pa_cons (pv 0) (pa_cons pe_int pa_nil))))
    (pss_cons (ps_set (i := 4) sc__law_pairs.nd rfl (Or.inl rfl) (pe_tup pa_nil))
    (pss_cons (ps_for PassesOwn.never rfl (pi_range1 (by rfl) B.range_ (pa_cons (pe_cD D__law_take (hr.less (by decide)) rfl (pa_cons (pv 0) (pa_cons pe_int pa_nil))) pa_nil)) (pg_name (i := 5) sc__law_pairs.nd rfl (Or.inl rfl))
      (pss_cons (ps_par (i := 6) (j := 7) rfl sc__law_pairs.nd rfl rfl (by decide) rfl rfl (pa_cons (pe_cD D__law_take (hr.less (by decide)) rfl (pa_cons (pv 0) (pa_cons (pv 2) pa_nil))) (pa_cons (pe_cD D__law_take (hr.less (by decide)) rfl (pa_cons (pv 0) (pa_cons (pv 2) pa_nil))) pa_nil)) (by rfl))
      (C8.pss_cut (ps_if (pt_cmpR op_eq (pv 3) pe_int (nomark _))
        (pss_one (ps_par (i := 6) (j := 7) rfl sc__law_pairs.nd rfl rfl (by decide) rfl rfl (pa_cons (pe_cD D__law_or_odd (hr.less (by decide)) rfl (pa_cons (pv 0) (pa_cons (pv 6) (pa_cons (pv 2) pa_nil)))) (pa_cons (pe_cD D__law_or_odd (hr.less (by decide)) rfl (pa_cons (pv 0) (pa_cons (pv 7) (pa_cons (pv 2) pa_nil)))) pa_nil)) (by rfl)))
        pss_nil)
      (pss_one (ps_set (i := 4) sc__law_pairs.nd rfl (Or.inl rfl) (pe_op op_catU (pv 4) (pe_tup (pa_cons (pe_tup (pa_cons (pv 6) (pa_cons (pv 7) pa_nil))) pa_nil))))))))
    (pss_cons (ps_if (pt_cmpR op_gt (pv 3) pe_int (nomark _))
      (pss_one (ps_ret (pv 4)))
      pss_nil)
    (pss_cons (ps_set (i := 8) sc__law_pairs.nd rfl (Or.inl rfl) (pe_tup (pa_cons (pe_cD D__law_or_odd (hr.less (by decide)) rfl (pa_cons (pv 0) (pa_cons pe_int (pa_cons (pv 2) pa_nil)))) (pa_cons (pe_cD D__law_or_odd (hr.less (by decide)) rfl (pa_cons (pv 0) (pa_cons pe_int (pa_cons (pv 2) pa_nil)))) pa_nil))))
    (pss_one (ps_ret (pe_cD D__law_bad_row (hr.less (by decide)) rfl (pa_cons (pv 0) (pa_cons (pv 4) (pa_cons (pe_ix (kk (K := K) (F := rIxL) (P := IxR _) ix_list) (pe_lstS (pa_cons (pv 8) (pa_cons (pv 8) (pa_cons (pe_tup (pa_cons pe_int pa_nil)) (pa_cons (pe_tup (pa_cons pe_int (pa_cons pe_int (pa_cons pe_int pa_nil)))) (pa_cons (pe_lstS (pa_cons pe_int (pa_cons pe_int pa_nil))) (pa_cons pe_str (pa_cons (pe_disp (pps_cons pe_int pe_int (pps_cons pe_int pe_int pps_nil)) (by rfl) (by rfl) (fun z => by cases z) (by decide)) (pa_cons pe_int pa_nil))))))))) (pe_cD D__law_take (hr.less (by decide)) rfl (pa_cons (pv 0) (pa_cons pe_int pa_nil))) (fun _ _ => rfl)) pa_nil)))))))))))), ?_⟩)
  · obtain ⟨p, k, cap, rfl, _⟩ := h; rfl
  · obtain ⟨p, k, cap, rfl, hk, hp, hc, q⟩ := h
    have hsh : CShl 1 (k : Int) := shl_ok (by omega)
    have e16 : 2 ^ k ≤ 16 := (Nat.pow_le_pow_right (by decide) hk : 2 ^ k ≤ 2 ^ 4)
    have e1 : 1 ≤ 2 ^ k := Nat.one_le_two_pow
    try walk_at "go"
    intro t0 H1 t1 t2 b1 p1
    try walk_at "go"
    simp only [p2k]
    generalize 2 ^ k = m at e16 e1 ⊢
    intro R0 hR0
    generalize eH2 : upd _ R0 _ = H2
    have SH2 := newS eH2 hR0
    have oR0 := newO eH2
    have p2 := PurseAt.same B SH2 p1
    try walk_at "go"
    intro n0 H3 n1 n2 b3 p3
    have nR0p : R0 ≠ p := purse_ne B p1 hR0
    have B3 : But p H H3 := b1.trans ((same_but SH2).trans b3)
    have oR3 := b3 _ _ nR0p oR0
    try walk_at "go"
    refine for_range (lo := 0) (n := n0.toNat) (fun i σ H' => Kept (∃ (R : Addr) (tr : List (V × PyData)) (w5 w6 w7 : Option V), σ = [some (.ref p), some (.int (k : Nat)), some (.int (m : Nat)), some (.int t0), some (.ref R), w5, w6, w7, none] ∧ But p H H' ∧ PurseAt H' p (cap + 128 + 640 * i) ∧ H' R = some (.tup (tr.map fun t => t.1)) ∧ tr.length = i ∧ ∀ t ∈ tr, ThL K (fun a => H a ≠ none) H' t.1 t.2)) ⟨⟨R0, [], none, none, none, rfl, B3, p3.up (by omega), oR3, rfl, fun t ht => nomatch ht⟩⟩ ?_ ?_
    · rintro i σ H4 hi ⟨R, tr, w5, w6, w7, rfl, b4, p4, oR, ltr, htr⟩
      have i5 : i < 6 := by omega
      try walk_at "go"
      intro h0 H5 h1 h2 b5 p5
      try walk_at "go"
      intro g0 H6 g1 g2 b6 p6
      have B6 := b4.trans (b5.trans b6)
      have oR6 := but_keep b6 p5 _ _ (but_keep b5 p4 _ _ oR)
      refine ⟨_, _, rfl, fun σ H' => Kept (∃ (v w : V) (dv dw : PyData) (w5 : Option V), σ = [some (.ref p), some (.int (k : Nat)), some (.int (m : Nat)), some (.int t0), some (.ref R), w5, some v, some w, none] ∧ But p H H' ∧ PurseAt H' p (cap + 128 + 640 * (i + 1)) ∧ H' R = some (.tup (tr.map fun t => t.1)) ∧ ThL K (fun a => H a ≠ none) H' v dv ∧ ThL K (fun a => H a ≠ none) H' w dw ∧ ∀ t ∈ tr, ThL K (fun a => H a ≠ none) H' t.1 t.2), ?_, ?_⟩
      · try walk_at "go"
        refine ite2 (fun c => ?_) (fun c => ?_)
        · try walk_at "go"
          intro v dv H7 b7 p7 th7
          try walk_at "go"
          intro w dw H8 b8 p8 th8
          refine ⟨_, _, rfl, ?_⟩
          have B8 := B6.trans (b7.trans b8)
          exact ⟨⟨v, w, dv, dw, _, rfl, B8, p8.up (by omega), but_keep b8 p7 _ _ (but_keep b7 p6 _ _ oR6), (th7.mono (but_fre B6 p6)).but hp.fre b8 p7.lst.choose_spec, th8.mono (but_fre (B6.trans b7) p7), fun t ht => ((htr t ht).but hp.fre (b5.trans (b6.trans (b7.trans b8))) p4.lst.choose_spec)⟩⟩
        · try walk_at "go"
          exact ⟨⟨_, _, .int h0, .int g0, _, rfl, B6, p6.up (by omega), oR6, .int _, .int _, fun t ht => (htr t ht).but hp.fre (b5.trans b6) p4.lst.choose_spec⟩⟩
      rintro _ H7 ⟨v, w, dv, dw, w5, rfl, b7, p7, oR7, thv, thw, htr7⟩
      try walk_at "go"
      intro A1 hA1
      generalize eH8 : upd _ A1 _ = H8
      have SH8 := newS eH8 hA1
      have oA1 := newO eH8
      try walk_at "go"
      intro A2 hA2
      generalize eH9 : upd _ A2 _ = H9
      have SH9 := newS eH9 hA2
      have oA2 := newO eH9
      have oR9 := SH9 _ _ (SH8 _ _ oR7)
      have oA1 := SH9 _ _ oA1
      have lq : (tr.map fun t => t.1).length + [V.ref A1].length ≤ sizeLine := small (by rw [List.length_map]; show _ + 1 ≤ 1000; omega)
      try walk_at "go"
      intro T H10 S10 oT
      have S710 := SH8.trans (SH9.trans S10)
      refine ⟨⟨T, tr ++ [(.ref A1, .tuple [dv, dw])], _, _, _, rfl, b7.trans (same_but S710), PurseAt.same B S710 p7, by rw [oT, List.map_append] <;> rfl, by rw [List.length_append, ltr] <;> rfl, fun t ht => ?_⟩⟩
      rcases List.mem_append.mp ht with ht | ht
      · exact (htr7 t ht).same S710
      · cases List.mem_singleton.mp ht
        exact ThL.tup (tr := [(v, dv), (w, dw)]) (S10 _ _ oA1) fun t ht => by
          simp only [List.mem_cons, List.not_mem_nil, or_false] at ht
          rcases ht with rfl | rfl
          · exact thv.same S710
          · exact thw.same S710
    · rintro σ H4 ⟨R, tr, w5, w6, w7, rfl, b4, p4, oR, ltr, htr⟩
      have i5 : n0.toNat ≤ 5 := by omega
      try walk_at "go"
      refine ite2 (fun c => ?_) (fun c => ?_)
      · try walk_at "go"
        exact q _ _ H4 b4 (p4.up (by omega)) (ThL.tup oR htr) (by show ((tr.map fun t => t.2)).length ≤ 100; rw [List.length_map]; omega)
      · try walk_at "go"
        intro v dv H5 b5 p5 th5
        try walk_at "go"
        intro w dw H6 b6 p6 th6
        try walk_at "go"
        intro P1 hP1
        generalize eH7 : upd _ P1 _ = H7
        have SH7 := newS eH7 hP1
        have oP1 := newO eH7
        try walk_at "go"
        intro T1 hT1
        generalize eH8 : upd _ T1 _ = H8
        have SH8 := newS eH8 hT1
        have oT1 := newO eH8
        try walk_at "go"
        intro T2 hT2
        generalize eH9 : upd _ T2 _ = H9
        have SH9 := newS eH9 hT2
        have oT2 := newO eH9
        try walk_at "go"
        intro L1 hL1
        generalize eH10 : upd _ L1 _ = H10
        have SH10 := newS eH10 hL1
        have oL1 := newO eH10
        intro s10
        intro D1 hD1
        refine ⟨upd_same, [(Sum.inl 0, .int 0), (Sum.inl 1, .int 0)], rfl, by decide, ?_⟩
        generalize eH11 : upd (upd H10 D1 _) D1 _ = H11
        have SH11 : Same H10 H11 := fun b o h => by rw [← eH11, upd_ne (ne_of_none h hD1), upd_ne (ne_of_none h hD1)]; exact h
        have oD1 : H11 D1 = some (.dK [(Sum.inl 0, .int 0), (Sum.inl 1, .int 0)]) := by rw [← eH11]; exact upd_same
        try walk_at "go"
        intro M1 hM1
        generalize eH12 : upd _ M1 _ = H12
        have SH12 := newS eH12 hM1
        have oM1 := newO eH12
        intro s12
        have B6 := b4.trans (b5.trans b6)
        have S712 := SH8.trans (SH9.trans (SH10.trans (SH11.trans SH12)))
        have S612 := SH7.trans S712
        have p12 := PurseAt.same B S612 p6
        try walk_at "go"
        intro e0 H13 e1 e2 b13 p13
        obtain ⟨e, rfl⟩ : ∃ e : Nat, e0 = (e : Int) := ⟨e0.toNat, by omega⟩
        have B12 := B6.trans (same_but S612)
        have nM1p : M1 ≠ p := purse_ne B (PurseAt.same B (SH7.trans (SH8.trans (SH9.trans (SH10.trans SH11)))) p6) hM1
        have fr1 : ¬ (H L1 ≠ none) := fun z => z ((B6.trans (same_but (SH7.trans (SH8.trans SH9)))).free (purse_ne B (PurseAt.same B (SH7.trans (SH8.trans SH9)) p6) hL1) hL1)
        have tv := (((th5.mono (but_fre b4 p4)).but hp.fre b6 p5.lst.choose_spec).same S612)
        have tw := ((th6.mono (but_fre (b4.trans b5) p5)).same S612)
        let tr0 : List (V × PyData) := [(.ref P1, .tuple [dv, dw]), (.ref P1, .tuple [dv, dw]), (.ref T1, .tuple [.int 0]), (.ref T2, .tuple [.int 0, .int 0, .int 0]), (.ref L1, .list [.int 0, .int 0]), (.str "00", .str "00"), (.ref D1, .dict [(.int 0, .int 0), (.int 1, .int 0)]), (.int 0, .int 0)]
        have oM' : H13 M1 = some (.lst (tr0.map fun t => t.1)) := b13 _ _ nM1p oM1
        have all0 : ∀ t ∈ tr0, ThL K (fun a => H a ≠ none) H12 t.1 t.2 := fun t ht => by
          simp only [tr0, List.mem_cons, List.not_mem_nil, or_false] at ht
          have tP : ThL K (fun a => H a ≠ none) H12 (.ref P1) (.tuple [dv, dw]) := ThL.tup (tr := [(v, dv), (w, dw)]) (S712 _ _ oP1) fun t ht => by
            simp only [List.mem_cons, List.not_mem_nil, or_false] at ht
            rcases ht with rfl | rfl
            · exact tv
            · exact tw
          rcases ht with rfl | rfl | rfl | rfl | rfl | rfl | rfl | rfl
          · exact tP
          · exact tP
          · exact ThL.tup (tr := iT [0]) ((SH9.trans (SH10.trans (SH11.trans SH12))) _ _ oT1) iT_th
          · exact ThL.tup (tr := iT [0, 0, 0]) ((SH10.trans (SH11.trans SH12)) _ _ oT2) iT_th
          · exact ThL.lst (tr := iT [0, 0]) fr1 s10 ((SH11.trans SH12) _ _ oL1) iT_th
          · exact .str _
          · exact ThL.dct (tr := [(0, .int 0, .int 0), (1, .int 0, .int 0)]) (SH12 _ _ oD1) fun t ht => by
              simp only [List.mem_cons, List.not_mem_nil, or_false] at ht
              rcases ht with rfl | rfl <;> exact .int _
          · exact .int _
        have el : e < tr0.length := by show e < 8; omega
        have ixe : atI (tr0.map fun t => t.1) (e : Int) = some tr0[e].1 := atI_nat (by rw [List.getElem?_map, List.getElem?_eq_getElem el] <;> rfl)
        have the := all0 _ (List.getElem_mem el)
        clear oM1 eH12
        generalize tr0[e] = od at ixe the
        obtain ⟨ov, odt⟩ := od
        clear_value tr0
        have B13 := B12.trans b13
        have oR13 := but_keep b13 p12 _ _ (S612 _ _ (but_keep b6 p5 _ _ (but_keep b5 p4 _ _ oR)))
        have the13 := the.but hp.fre b13 p12.lst.choose_spec
        have htr13 : ∀ t ∈ tr, ThL K (fun a => H a ≠ none) H13 t.1 t.2 := fun t ht => (((htr t ht).but hp.fre (b5.trans b6) p4.lst.choose_spec).same S612).but hp.fre b13 p12.lst.choose_spec
        have so : SetOf (fun a => H a ≠ none) p H13 := ⟨hp.fre, but_fre B13 p13⟩
        try walk_at "go"
        intro v' d' H' b' p' th' l'
        refine q v' d' H' (B13.trans b') (p'.up (by omega)) th' ?_
        cases d' with
        | tuple ds => have := l' ds rfl; show ds.length ≤ 100; omega
        | _ => exact Nat.zero_le _
/-! SPLIT -/
omit B in
theorem repA2 {K : PySem.W.Frag} {H : Hp} {T : Addr} {i : Int} {Q : VK} (hT : H T = some (.tup [.int 2])) (h1 : 1 ≤ i) (h8 : i ≤ 8) (q : ∀ p (xs : List Int) H', Same H H' → H' p = some (.tup (xs.map V.int)) → Q (.ref p) H') : rRepA K (.ref T) (.int i) H Q := by
  by_cases c : i = 1
  · subst c
    exact .inl ⟨rfl, ⟨T, _, rfl, SqT.of hT⟩, q T [2] H (fun _ _ h => h) hT⟩
  · refine .inr ⟨T, _, _, rfl, rfl, SqT.of hT, by simp, by omega, by omega, by decide, fun p hp => q p (List.replicate i.toNat 2) _ (same_new hp _) ?_⟩
    rw [upd_same]
    congr 2
    generalize i.toNat = m
    induction m with
    | zero => rfl
    | succ m ih => rw [List.replicate_succ, List.flatten_cons, ih]; rfl
omit B in
theorem four_of {α : Type} {l : List α} (h : l.length = 4) : ∃ a b c d, l = [a, b, c, d] := by
  match l, h with
  | [a, b, c, d], _ => exact ⟨a, b, c, d, rfl⟩
structure D8 where
  k : V × PyData
  one : V × PyData
  other : V × PyData
  goal : V × PyData
  last : V × PyData
  pairs : V × PyData
  sides : V × PyData
  sets : V × PyData
/-- what was drawn, at a list -/
structure D8.at_ (K : PySem.W.Frag) (S : Addr → Prop) (H : Hp) (L : Addr) (x : D8) : Prop where
  o : H L = some (.lst [x.k.1, x.one.1, x.other.1, x.goal.1, x.last.1, x.pairs.1, x.sides.1, x.sets.1])
  k : ThL K S H x.k.1 x.k.2
  one : ThL K S H x.one.1 x.one.2
  other : ThL K S H x.other.1 x.other.2
  goal : ThL K S H x.goal.1 x.goal.2
  last : ThL K S H x.last.1 x.last.2
  pairs : ThL K S H x.pairs.1 x.pairs.2
  sides : ThL K S H x.sides.1 x.sides.2
  sets : ThL K S H x.sets.1 x.sets.2
  n : (psD x.pairs.2).length ≤ 100
def spDrawn (K : PySem.W.Frag) : Sp := fun vs H Q _ => ∃ (p : Addr) (cap : Nat), vs = [.ref p] ∧ PurseAt H p cap ∧ cap ≤ 60000 ∧ ∀ L x H', But p H H' → PurseAt H' p (cap + 14000) → D8.at_ K (fun a => H a ≠ none) H' L x → Q (.ref L) H'
theorem k__law_drawn (D : Df K mg "_law_drawn" s__law_drawn ["_law_purse_here"]) (D__law_take : Dn P w K mg base 2 "_law_take" ["_law_purse_here", "_law_many"] (spTakeP K)) (D__law_or_odd : Dn P w K mg base 4 "_law_or_odd" ["_law_purse_here", "_law_good", "_law_many"] (spOrO K)) (D__law_bad_row : Dn P w K mg base 3 "_law_bad_row" ["_law_purse_here", "_law_row", "_law_thing"] (spBR37 K)) (D__law_odd : Dn P w K mg base 3 "_law_odd" ["_law_purse_here", "_law_many"] (spOdd37 K)) (D__law_settings : Dn P w K mg base 3 "_law_settings" ["_law_purse_here", "_law_k"] (spSettS K)) (D__law_pairs : Dn P w K mg base 5 "_law_pairs" ["_law_purse_here", "_law_k"] (spPairs37 K)) : Dn P w K mg base 6 "_law_drawn" ["_law_purse_here"] (spDrawn K) := by
  refine D.ok fun f fd F => okG0 F sc__law_drawn (fun vs H Q E h => ?_) (fun cdv A outer s H vs Q E hr h => ⟨_, (pss_cons (ps_set (i := 1) sc__law_drawn.nd rfl (Or.inl rfl) (pe_cD D__law_take (hr.less (by decide)) rfl (pa_cons (pv 0) (pa_cons pe_int pa_nil))))
    (pss_cons (ps_set (i := 2) sc__law_drawn.nd rfl (Or.inr rfl) (pe_op op_shlW pe_int (pv 1)))
    (pss_cons (ps_setLc (i := 3) (own := [("_law_turn", 6)]) (g := gName 6) (tt := tYes) rfl sc__law_drawn.nd rfl rfl (sw_true rfl rfl rfl (by decide +kernel)) (pi_range1 (by rfl) B.range_ (pa_cons pe_int pa_nil)) (blkOk_by (own := [("_law_turn", 6)]) (N := ["_law_purse_here", "_law_k", "_law_many", "_law_found", "_law_sides", "_law_settings_here", "_law_turn", "_law_hand"]) (sc := defScope s__law_drawn) (by decide +kernel)) (fun _ _ _ _ _ => (pg_name (i := 6) sc__law_drawn.nd rfl (Or.inl rfl))) (fun _ _ _ _ _ => pts_nil) (fun _ _ _ _ _ => (pe_cD D__law_or_odd (hr.less (by decide)) rfl (pa_cons (pv 0) (pa_cons (pe_cD D__law_take (hr.less (by decide)) rfl (pa_cons (pv 0) (pa_cons (pv 2) pa_nil))) (pa_cons (pv 2) pa_nil))))))
    (C8.pss_cut (ps_if (pt_cmpR op_eq (pe_cD D__law_take (hr.less (by decide)) rfl (pa_cons (pv 0) (pa_cons pe_int pa_nil))) pe_int (nomark _))
      (pss_one (ps_asg (pe_tup (pa_cons (pe_ix (kk (K := K) (F := rIxL) (P := IxR _) ix_list) (pv 3) pe_int (fun _ _ => rfl)) (pa_cons (pe_ix (kk (K := K) (F := rIxL) (P := IxR _) ix_list) (pv 3) pe_int (fun _ _ => rfl)) pa_nil))) (kk (K := K) (F := fun K => gTup K 2 _) (P := PG _ _) (pg_tup rfl (pgs_cons (pg_sub (pv 3) pe_int set_list) (pgs_cons (pg_sub (pv 3) pe_int set_list) pgs_nil))))))
      pss_nil)
    (pss_cons (ps_set (i := 4) sc__law_drawn.nd rfl (Or.inl rfl) (pe_callTy (tupOfK (K := K)) (by rfl) B.tuple_ (by decide +kernel) (pa_cons (pe_lc (own := [("_law_hand", 7)]) (g := gName 7) (tt := tYes) rfl sc__law_drawn.nd (pi_range1 (by rfl) B.range_ (pa_cons (pv 2) pa_nil)) (blkOk_by (own := [("_law_hand", 7)]) (N := ["_law_purse_here", "_law_k", "_law_many", "_law_found", "_law_sides", "_law_settings_here", "_law_turn", "_law_hand"]) (sc := defScope s__law_drawn) (by decide +kernel)) (fun _ _ _ _ _ => (pg_name (i := 7) sc__law_drawn.nd rfl (Or.inl rfl))) (fun _ _ _ _ _ => pts_nil) (fun _ _ _ _ _ => (pe_cD D__law_take (hr.less (by decide)) rfl (pa_cons (pv 0) (pa_cons (pv 2) pa_nil))))) pa_nil)))
    (C8.pss_cut (ps_if (pt_cmpR op_eq (pe_cD D__law_take (hr.less (by decide)) rfl (pa_cons (pv 0) (pa_cons pe_int pa_nil))) pe_int (nomark _))
      (pss_one (ps_set (i := 4) sc__law_drawn.nd rfl (Or.inl rfl) (pe_cD D__law_bad_row (hr.less (by decide)) rfl (pa_cons (pv 0) (pa_cons (pv 4) (pa_cons (pe_cD D__law_odd (hr.less (by decide)) rfl (pa_cons (pv 0) (pa_cons (pv 2) pa_nil))) pa_nil))))))
      pss_nil)
    (pss_cons (ps_set (i := 5) sc__law_drawn.nd rfl (Or.inl rfl) (pe_cD D__law_settings (hr.less (by decide)) rfl (pa_cons (pv 0) (pa_cons (pv 1) pa_nil))))
    (C8.pss_cut (ps_if (pt_cmpR op_eq (pe_cD D__law_take (hr.less (by decide)) rfl (pa_cons (pv 0) (pa_cons pe_int pa_nil))) pe_int (nomark _))
      (pss_one (ps_set (i := 5) sc__law_drawn.nd rfl (Or.inl rfl) (pe_cD D__law_bad_row (hr.less (by decide)) rfl (pa_cons (pv 0) (pa_cons (pv 5) (pa_cons (pe_ix (kk (K := K) (F := rIxL) (P := IxR _) ix_list) (pe_lstS (pa_cons (pe_tup pa_nil) (pa_cons (pe_op (kk (K := K) (F := rRepA) (P := OpR _ _) op_repA) (pe_tup (pa_cons pe_int pa_nil)) (pe_op op_shlW pe_int (pe_callB (call_max2 rfl) (by rfl) B.max_ (by decide +kernel) (pa_cons pe_int (pa_cons (pe_op op_sub (pv 1) pe_int) pa_nil))))) (pa_cons pe_int (pa_cons pe_non pa_nil))))) (pe_cD D__law_take (hr.less (by decide)) rfl (pa_cons (pv 0) (pa_cons pe_int pa_nil))) (fun _ _ => rfl)) pa_nil))))))
      pss_nil)
    (pss_cons (ps_set (i := 3) sc__law_drawn.nd rfl (Or.inl rfl) (pe_op op_cat (pv 3) (pe_lstS (pa_cons (pe_cD D__law_pairs (hr.less (by decide)) rfl (pa_cons (pv 0) (pa_cons (pv 1) pa_nil))) (pa_cons (pv 4) (pa_cons (pv 5) pa_nil))))))
    (pss_one (ps_ret (pe_op op_cat (pe_lstS (pa_cons (pe_ix (kk (K := K) (F := rIxL) (P := IxR _) ix_list) (pe_lstS (pa_cons (pe_cD D__law_odd (hr.less (by decide)) rfl (pa_cons (pv 0) (pa_cons pe_int pa_nil))) (pa_cons (pv 1) pa_nil))) (pe_callTy call_int1 (by rfl) B.int_ (by decide +kernel) (pa_cons (pe_cmpR op_gt (pe_cD D__law_take (hr.less (by decide)) rfl (pa_cons (pv 0) (pa_cons pe_int pa_nil))) pe_int (nomark _)) pa_nil)) (fun _ _ => rfl)) pa_nil)) (pv 3))))))))))))), ?_⟩)
  · obtain ⟨p, cap, rfl, _⟩ := h; rfl
  · obtain ⟨p, cap, rfl, hp, hc, q⟩ := h
    try walk_at "go"
    intro k0 H1 k1 k2 b1 p1
    obtain ⟨k, rfl⟩ : ∃ k : Nat, k0 = (k : Int) := ⟨k0.toNat, by omega⟩
    have hk : k ≤ 4 := by omega
    have hsh : CShl 1 (k : Int) := shl_ok (by omega)
    have e16 : 2 ^ k ≤ 16 := (Nat.pow_le_pow_right (by decide) hk : 2 ^ k ≤ 2 ^ 4)
    have e1 : 1 ≤ 2 ^ k := Nat.one_le_two_pow
    try walk_at "go"
    simp only [p2k]
    obtain ⟨m, hm⟩ : ∃ m : Nat, m = 2 ^ k := ⟨_, rfl⟩
    rw [← hm] at e16 e1
    rw [← hm]
    intro D hD
    have nDp : D ≠ p := purse_ne B p1 hD
    obtain ⟨S, hS⟩ : ∃ S : Addr → Prop, S = fun a => H a ≠ none ∨ a = D := ⟨_, rfl⟩
    have Sp_ : S p := by rw [hS]; exact .inl hp.fre
    have SD : S D := by rw [hS]; exact .inr rfl
    have Sfr : ∀ H' c ys, But p H H' → PurseAt H' p c → H' D = some (.lst ys) → ∀ a, S a → H' a ≠ none := fun H' c ys be pe he a ha => by
      rw [hS] at ha
      rcases ha with ha | rfl
      · exact but_fre be pe a ha
      · rw [he]; exact fun z => by cases z
    refine lc_range (lo := 0) (n := 4) (fun i H' => Kept (∃ tr : List (V × PyData), But p H1 H' ∧ PurseAt H' p (cap + 64 + 320 * i) ∧ H' D = some (.lst (tr.map fun t => t.1)) ∧ tr.length = i ∧ ∀ t ∈ tr, ThL K S H' t.1 t.2)) ⟨⟨[], same_but (same_new hD _), PurseAt.upd B (Ne.symm nDp) p1, upd_same, rfl, fun t ht => nomatch ht⟩⟩ ?_ ?_
    · rintro i H2 hi ⟨tr, b2, p2, oD, ltr, htr⟩
      try walk_at "go"
      intro d0 H3 d1 d2 b3 p3
      try walk_at "go"
      intro v d H4 b4 p4 th4
      have b24 := b3.trans b4
      have oD3 := b3 _ _ nDp oD
      have oD4 := b4 _ _ nDp oD3
      have ll : (tr.map fun t => t.1).length ≤ 20 := by rw [List.length_map]; omega
      try walk_at "go"
      have th := th4.mono (Sfr _ _ _ (b1.trans (b2.trans b3)) p3 oD3)
      refine ⟨⟨tr ++ [(v, d)], (b2.trans b24).fr hD, PurseAt.upd B (Ne.symm nDp) (p4.up (by omega)), by rw [upd_same, List.map_append] <;> rfl, by rw [List.length_append, ltr] <;> rfl, fun t ht => ?_⟩⟩
      refine ThL.but ?_ SD But.upd oD4
      rcases List.mem_append.mp ht with ht | ht
      · exact (htr t ht).but Sp_ b24 p2.lst.choose_spec
      · cases List.mem_singleton.mp ht
        exact th
    rintro H2 ⟨tr, b2, p2, oD, ltr, htr⟩
    obtain ⟨x1, x2, x3, x4, rfl⟩ := four_of ltr
    have h1 := htr x1 (by simp)
    have h2 := htr x2 (by simp)
    have h3 := htr x3 (by simp)
    have h4 := htr x4 (by simp)
    replace oD : H2 D = some (.lst [x1.1, x2.1, x3.1, x4.1]) := oD
    clear htr ltr
    refine ⟨fun σ H' => Kept (∃ y2 y4 : V × PyData, σ = [some (.ref p), some (.int (k : Nat)), some (.int (m : Nat)), some (.ref D), none, none, none, none] ∧ But p H1 H' ∧ PurseAt H' p (cap + 1408) ∧ H' D = some (.lst [x1.1, y2.1, x3.1, y4.1]) ∧ ThL K S H' x1.1 x1.2 ∧ ThL K S H' y2.1 y2.2 ∧ ThL K S H' x3.1 x3.2 ∧ ThL K S H' y4.1 y4.2), ?_, ?_⟩
    · try walk_at "go"
      intro w0 H3 w1 w2 b3 p3
      have oD3 := b3 _ _ nDp oD
      have t3 : ∀ v d, ThL K S H2 v d → ThL K S H3 v d := fun v d h => h.but Sp_ b3 p2.lst.choose_spec
      try walk_at "go"
      refine ite2 (fun c => ?_) (fun c => ?_)
      · try walk_at "go"
        intro TT hTT
        generalize eH4 : upd _ TT _ = H4
        have SH4 := newS eH4 hTT
        have oTT := newO eH4
        have oD4 := SH4 _ _ oD3
        try walk_at "go"
        have u4 : ∀ v d, ThL K S H3 v d → ThL K S (upd (upd H4 D (.lst [x1.1, x1.1, x3.1, x4.1])) D (.lst [x1.1, x1.1, x3.1, x3.1])) v d := fun v d h => ((h.same SH4).but SD But.upd oD4).but SD But.upd upd_same
        have b4 : But p H1 H4 := b2.trans (b3.trans (same_but SH4))
        exact ⟨⟨x1, x3, rfl, (b4.fr hD).fr hD, PurseAt.upd B (Ne.symm nDp) (PurseAt.upd B (Ne.symm nDp) ((PurseAt.same B SH4 p3).up (by omega))), upd_same, u4 _ _ (t3 _ _ h1), u4 _ _ (t3 _ _ h1), u4 _ _ (t3 _ _ h3), u4 _ _ (t3 _ _ h3)⟩⟩
      · try walk_at "go"
        exact ⟨⟨x2, x4, rfl, b2.trans b3, p3.up (by omega), oD3, t3 _ _ h1, t3 _ _ h2, t3 _ _ h3, t3 _ _ h4⟩⟩
    rintro _ H3 ⟨y2, y4, rfl, b3, p3, oD3, g1, g2, g3, g4⟩
    try walk_at "go"
    intro E hE
    rw [Int.toNat_natCast]
    have nEp : E ≠ p := purse_ne B p3 hE
    have nED : E ≠ D := fun z => by rw [z, oD3] at hE; cases hE
    refine lc_range (lo := 0) (n := m) (fun i H' => Kept (∃ bs : List Int, But p H3 H' ∧ PurseAt H' p (cap + 1408 + 64 * i) ∧ H' E = some (.lst (bs.map V.int)) ∧ bs.length = i)) ⟨⟨[], same_but (same_new hE _), PurseAt.upd B (Ne.symm nEp) p3, upd_same, rfl⟩⟩ ?_ ?_
    · rintro i H4 hi ⟨bs, b4, p4, oE, lb⟩
      try walk_at "go"
      intro d0 H5 d1 d2 b5 p5
      have oE5 := b5 _ _ nEp oE
      have ll : (bs.map V.int).length ≤ 20 := by rw [List.length_map]; omega
      try walk_at "go"
      exact ⟨⟨bs ++ [d0], (b4.trans b5).fr hE, PurseAt.upd B (Ne.symm nEp) (p5.up (by omega)), by rw [upd_same, List.map_append] <;> rfl, by rw [List.length_append, lb] <;> rfl⟩⟩
    rintro H4 ⟨bs, b4, p4, oE, lb⟩
    try walk_at "go"
    intro U hU
    generalize eH5 : upd _ U _ = H5
    have SH5 := newS eH5 hU
    have oU := newO eH5
    have b35 : But p H3 H5 := b4.trans (same_but SH5)
    have p5 : PurseAt H5 p (cap + 2432) := (PurseAt.same B SH5 p4).up (by omega)
    have B5 := b3.trans b35
    have oD5 := b35 _ _ nDp oD3
    have t35 : ∀ v d, ThL K S H3 v d → ThL K S H5 v d := fun v d h => h.but Sp_ b35 p3.lst.choose_spec
    replace g1 := t35 _ _ g1
    replace g2 := t35 _ _ g2
    replace g3 := t35 _ _ g3
    replace g4 := t35 _ _ g4
    clear t35 b35 p4 b4 oE p3 b3 oD3
    refine ⟨fun σ H' => Kept (∃ s : V × PyData, σ = [some (.ref p), some (.int (k : Nat)), some (.int (m : Nat)), some (.ref D), some s.1, none, none, none] ∧ But p H5 H' ∧ PurseAt H' p (cap + 2944) ∧ ThL K S H' s.1 s.2), ?_, ?_⟩
    · try walk_at "go"
      intro w0 H6 w1 w2 b6 p6
      try walk_at "go"
      refine ite2 (fun c => ?_) (fun c => ?_)
      · try walk_at "go"
        intro v d H7 b7 p7 th7
        have b57 := b6.trans b7
        have th := th7.mono (Sfr _ _ _ (b1.trans (B5.trans b6)) p6 (b6 _ _ nDp oD5))
        have oU7 : H7 U = some (.tup ((iT bs).map fun t => t.1)) := by rw [but_keep b57 p5 _ _ oU, iT_v]
        have lb16 : (iT bs).length ≤ 20 := by unfold iT; rw [List.length_map]; omega
        have so : SetOf S p H7 := ⟨Sp_, Sfr _ _ _ (b1.trans (B5.trans b57)) p7 (b57 _ _ nDp oD5)⟩
        have tI : ∀ t ∈ iT bs, ThL K S H7 t.1 t.2 := iT_th
        try walk_at "go"
        intro v' d' H8 b8 p8 th8 _
        exact ⟨⟨(v', d'), rfl, b57.trans b8, p8.up (by omega), th8⟩⟩
      · try walk_at "go"
        exact ⟨⟨(.ref U, .tuple ((iT bs).map fun t => t.2)), rfl, b6, p6.up (by omega), ThL.tup (by rw [but_keep b6 p5 _ _ oU, iT_v]) iT_th⟩⟩
    rintro _ H6 ⟨sd, rfl, b6, p6, tsd⟩
    try walk_at "go"
    intro T s H7 b7 p7 hT hb
    have b57 := b6.trans b7
    have oD7 := b57 _ _ nDp oD5
    have t57 : ∀ v d, ThL K S H5 v d → ThL K S H7 v d := fun v d h => h.but Sp_ b57 p5.lst.choose_spec
    replace g1 := t57 _ _ g1
    replace g2 := t57 _ _ g2
    replace g3 := t57 _ _ g3
    replace g4 := t57 _ _ g4
    replace tsd := tsd.but Sp_ b7 p6.lst.choose_spec
    obtain ⟨tr, oT, ltr, htr, _⟩ := se_tr hT
    have B7 := B5.trans b57
    clear t57 b57 b7 b6 p6 oD5 p5
    replace p7 : PurseAt H7 p (cap + 7040) := p7.up (by omega)
    refine ⟨fun σ H' => Kept (∃ e : V × PyData, σ = [some (.ref p), some (.int (k : Nat)), some (.int (m : Nat)), some (.ref D), some sd.1, some e.1, none, none] ∧ But p H7 H' ∧ PurseAt H' p (cap + 7360) ∧ ThL K S H' e.1 e.2), ?_, ?_⟩
    · try walk_at "go"
      intro w0 H8 w1 w2 b8 p8
      try walk_at "go"
      refine ite2 (fun c => ?_) (fun c => ?_)
      · try walk_at "go"
        intro Z0 hZ0
        generalize eH9 : upd _ Z0 _ = H9
        have SH9 := newS eH9 hZ0
        have oZ0 := newO eH9
        try walk_at "go"
        intro Z2 hZ2
        generalize eH10 : upd _ Z2 _ = H10
        have SH10 := newS eH10 hZ2
        have oZ2 := newO eH10
        try walk_at "go"
        obtain ⟨j, hj, hj3⟩ : ∃ j : Nat, (if (k : Int) - 1 > 0 then (k : Int) - 1 else 0) = (j : Int) ∧ j ≤ 3 := ⟨k - 1, by split <;> omega, by omega⟩
        have e2j : (1 : Int) * 2 ^ ((j : Nat) : Int).toNat = ((2 ^ j : Nat) : Int) := p2k j
        have e2j8 : 2 ^ j ≤ 8 := (Nat.pow_le_pow_right (by decide) hj3 : 2 ^ j ≤ 2 ^ 3)
        have e2j1 : 1 ≤ 2 ^ j := Nat.one_le_two_pow
        refine ⟨by rw [hj]; exact shl_ok (by omega), repA2 oZ2 ?_ ?_ fun T2 xs H11 S11 oT2 => ?_⟩
        · show (1 : Int) ≤ 1 * 2 ^ (if (k : Int) - 1 > 0 then (k : Int) - 1 else 0).toNat
          rw [hj, e2j]; omega
        · show (1 : Int) * 2 ^ (if (k : Int) - 1 > 0 then (k : Int) - 1 else 0).toNat ≤ 8
          rw [hj, e2j]; omega
        try walk_at "go"
        intro M1 hM1
        generalize eH12 : upd _ M1 _ = H12
        have SH12 := newS eH12 hM1
        have oM1 := newO eH12
        intro s12
        have S812 := SH9.trans (SH10.trans (S11.trans SH12))
        have p12 := PurseAt.same B S812 p8
        try walk_at "go"
        intro e0 H13 e1 e2 b13 p13
        obtain ⟨e, rfl⟩ : ∃ e : Nat, e0 = (e : Int) := ⟨e0.toNat, by omega⟩
        have nM1p : M1 ≠ p := purse_ne B (PurseAt.same B (SH9.trans (SH10.trans S11)) p8) hM1
        let tr0 : List (V × PyData) := [(.ref Z0, .tuple []), (.ref T2, .tuple ((iT xs).map fun t => t.2)), (.int 0, .int 0), (.non, .none)]
        have oM' : H13 M1 = some (.lst (tr0.map fun t => t.1)) := b13 _ _ nM1p oM1
        have all0 : ∀ t ∈ tr0, ThL K S H12 t.1 t.2 := fun t ht => by
          simp only [tr0, List.mem_cons, List.not_mem_nil, or_false] at ht
          rcases ht with rfl | rfl | rfl | rfl
          · exact ThL.tup (tr := []) ((SH10.trans (S11.trans SH12)) _ _ oZ0) fun t ht => nomatch ht
          · exact ThL.tup (by rw [SH12 _ _ oT2, iT_v]) iT_th
          · exact .int _
          · exact .non
        have el : e < tr0.length := by show e < 4; omega
        have ixe : atI (tr0.map fun t => t.1) (e : Int) = some tr0[e].1 := atI_nat (by rw [List.getElem?_map, List.getElem?_eq_getElem el] <;> rfl)
        have the := all0 _ (List.getElem_mem el)
        clear oM1 eH12
        generalize tr0[e] = od at ixe the
        obtain ⟨ov, odt⟩ := od
        clear_value tr0
        have b712 := b8.trans (same_but S812)
        have b713 := b712.trans b13
        have oT13 := but_keep b713 p7 _ _ oT
        have the13 := the.but Sp_ b13 p12.lst.choose_spec
        have htr13 : ∀ t ∈ tr, ThL K S H13 t.1 t.2 := fun t ht => (htr K S t ht).but Sp_ b713 p7.lst.choose_spec
        have so : SetOf S p H13 := ⟨Sp_, Sfr _ _ _ (b1.trans (B7.trans b713)) p13 (b713 _ _ nDp oD7)⟩
        try walk_at "go"
        intro v' d' H14 b14 p14 th14 _
        exact ⟨⟨(v', d'), rfl, b713.trans b14, p14.up (by omega), th14⟩⟩
      · try walk_at "go"
        exact ⟨⟨(.ref T, .tuple (tr.map fun t => t.2)), rfl, b8, p8.up (by omega), (ThL.tup oT (htr K S)).but Sp_ b8 p7.lst.choose_spec⟩⟩
    rintro _ H8 ⟨se, rfl, b8, p8, tse⟩
    try walk_at "go"
    intro v d H9 b9 p9 th9 ln9
    try walk_at "go"
    intro L1 hL1
    generalize eH10 : upd _ L1 _ = H10
    have SH10 := newS eH10 hL1
    have oL1 := newO eH10
    intro s10
    have b79 := b8.trans b9
    have oD9 := b79 _ _ nDp oD7
    have oD10 := SH10 _ _ oD9
    try walk_at "go"
    intro M2 hM2
    generalize eH11 : upd _ M2 _ = H11
    have SH11 := newS eH11 hM2
    have oM2 := newO eH11
    have p11 := PurseAt.same B (SH10.trans SH11) p9
    try walk_at "go"
    intro v0 d0 H12 b12 p12 th12
    have nL2p : M2 ≠ p := purse_ne B (PurseAt.same B SH10 p9) hM2
    have oL12 := b12 _ _ nL2p oM2
    try walk_at "go"
    intro L3 hL3
    generalize eH13 : upd _ L3 _ = H13
    have SH13 := newS eH13 hL3
    have oL3 := newO eH13
    intro s13
    have p13 := PurseAt.same B SH13 p12
    have oL13 := SH13 _ _ oL12
    try walk_at "go"
    intro e0 H14 e1 e2 b14 p14
    have nL3p : L3 ≠ p := purse_ne B p12 hL3
    have oL314 := b14 _ _ nL3p oL3
    have oL214 := b14 _ _ nL2p oL13
    try walk_at "go"
    refine .inr ⟨_, rfl, ?_⟩
    have B9 := b1.trans (B7.trans b79)
    have S911 := SH10.trans SH11
    have b12t := (same_but (p := p) S911).trans b12
    have b14t := (same_but (p := p) SH13).trans b14
    have t0 := th12.mono (Sfr _ _ _ (B9.trans (same_but S911)) p11 (S911 _ _ oD9))
    have tv := th9.mono (Sfr _ _ _ (b1.trans (B7.trans b8)) p8 (b8 _ _ nDp oD7))
    obtain ⟨xk, hx, ixk⟩ : ∃ xk : V × PyData, ThL K S H12 xk.1 xk.2 ∧ atI [v0, V.int (k : Nat)] (if decide (0 < e0) = true then 1 else 0) = some xk.1 := by
      by_cases c : decide (0 < e0) = true
      · rw [if_pos c]; exact ⟨(.int (k : Nat), .int (k : Nat)), .int _, rfl⟩
      · rw [if_neg c]; exact ⟨(v0, d0), t0, rfl⟩
    try walk_at "go"
    intro L4 hL4
    generalize eH15 : upd _ L4 _ = H15
    have SH15 := newS eH15 hL4
    have oL4 := newO eH15
    intro s15
    have oL215 := SH15 _ _ oL214
    try walk_at "go"
    intro L5 hL5
    generalize eH16 : upd _ L5 _ = H16
    have SH16 := newS eH16 hL5
    have oL5 := newO eH16
    have S1416 := SH15.trans SH16
    have b916 : But p H9 H16 := b12t.trans (b14t.trans (same_but S1416))
    have b716 := b79.trans b916
    have t7 : ∀ v d, ThL K S H7 v d → ThL K (fun a => H a ≠ none) H16 v d := fun v d h => (h.but Sp_ b716 p7.lst.choose_spec).mono fun a ha => by rw [hS]; exact .inl ha
    have t12 : ∀ v d, ThL K S H12 v d → ThL K (fun a => H a ≠ none) H16 v d := fun v d h => (h.but Sp_ (b14t.trans (same_but S1416)) p12.lst.choose_spec).mono fun a ha => by rw [hS]; exact .inl ha
    have t8 : ∀ v d, ThL K S H8 v d → ThL K (fun a => H a ≠ none) H16 v d := fun v d h => (h.but Sp_ (b9.trans b916) p8.lst.choose_spec).mono fun a ha => by rw [hS]; exact .inl ha
    have t9 : ∀ v d, ThL K S H9 v d → ThL K (fun a => H a ≠ none) H16 v d := fun v d h => (h.but Sp_ b916 p9.lst.choose_spec).mono fun a ha => by rw [hS]; exact .inl ha
    exact q L5 ⟨xk, x1, y2, x3, y4, (v, d), sd, se⟩ H16 (B9.trans b916) ((PurseAt.same B S1416 p14).up (by omega)) ⟨oL5, t12 _ _ hx, t7 _ _ g1, t7 _ _ g2, t7 _ _ g3, t7 _ _ g4, t9 _ _ tv, t7 _ _ tsd, t8 _ _ tse, ln9⟩
/-! SPLIT -/
omit B in
theorem th_at {K : PySem.W.Frag} {p : Addr} {H H' : Hp} {v : V} {d : PyData} (h : Th K p H v d) (e : Same H H') : Th K p H' v d := h.same e
local macro_rules | `(tactic| walk_at "own") => `(tactic| first | exact L2.ClsV.own _ | (apply Toy.th_at; (with_reducible assumption); walk_at "sm"))
omit B in
theorem all_fst {tr : List (V × PyData)} {f : PyData → Bool} {i : Nat} {t : V × PyData} (h : tr[i]? = some t) : ((tr.take i).map fun t => V.bl (f t.2)) ++ [V.bl (f t.2)] = ((tr.take (i + 1)).map fun t => V.bl (f t.2)) := by
  rw [List.take_succ, h, List.map_append] <;> rfl
omit B in
theorem blS {tr : List (V × PyData)} {f : PyData → Bool} : (tr.map fun t => V.bl (f t.2)) = ((tr.map fun t => t.2).map f).map V.bl := by rw [List.map_map, List.map_map] <;> rfl
omit B in
theorem allS {tr : List (V × PyData)} {f : PyData → Bool} : ((tr.map fun t => t.2).map f).all id = (tr.map fun t => t.2).all f := by rw [List.all_map] <;> rfl
omit B in
theorem filt_all : ∀ {tr : List (V × PyData)}, ((tr.filter fun t => !isT2 t.2).map fun t => t.1).isEmpty = (tr.map fun t => t.2).all isT2
  | [] => rfl
  | t :: r => by
    cases h : isT2 t.2 with
    | true => rw [List.filter_cons_of_neg (by rw [h]; decide), List.map_cons, List.all_cons, h, Bool.true_and]; exact filt_all
    | false => rw [List.filter_cons_of_pos (by rw [h]; rfl), List.map_cons, List.map_cons, List.all_cons, h] <;> rfl
def spArP (K : PySem.W.Frag) : Sp := fun vs H Q _ => ∃ (v : V) (d : PyData) (p : Addr), vs = [v] ∧ Th K p H v d ∧ (psD d).length ≤ 100 ∧ ∀ H', Same H H' → Q (.bl (isPs d)) H'
theorem k__law_are_pairs (D : Df K mg "_law_are_pairs" s__law_are_pairs ["_law_thing"]) : Dn P w K mg base 1 "_law_are_pairs" ["_law_thing"] (spArP K) := by
  refine D.ok fun f fd F => okG0 F sc__law_are_pairs (fun vs H Q E h => ?_) (fun cdv A outer s H vs Q E hr h => ⟨_, (pss_one (ps_ret (pe_and (pe_callB (kk (K := K) (F := rIsi) (P := CallR _ _) call_isi) (by rfl) B.isinstance_ (by decide +kernel) (pa_cons (pv 0) (pa_cons (pe_bltn (v := .ty "tuple") (u := .type "tuple") (by rfl) B.tuple_ (by decide +kernel) rfl) pa_nil))) (pe_one (pe_cmpR (kk (K := K) (F := rEqNil) (P := OpR _ _) (op_eqNil hr.units)) (pe_lc (own := [("_law_one", 1)]) (g := gName 1) rfl sc__law_are_pairs.nd (kk (K := K) (F := fun K => iTup K _) (P := PI _ _ _) (pi_tup (pv 0))) (blkOk_by (own := [("_law_one", 1)]) (N := ["_law_thing", "_law_one"]) (sc := defScope s__law_are_pairs) (by decide +kernel)) (fun _ _ _ _ _ => (pg_name (i := 1) sc__law_are_pairs.nd rfl (Or.inl rfl))) (fun _ _ _ _ _ => (pts_one (PW.pt (pw_or (pt_not (pt_val (pe_callB (kk (K := K) (F := rIsi) (P := CallR _ _) call_isi) (by rfl) B.isinstance_ (by decide +kernel) (pa_cons (pv 1) (pa_cons (pe_bltn (v := .ty "tuple") (u := .type "tuple") (by rfl) B.tuple_ (by decide +kernel) rfl) pa_nil))))) (pw_or1 (pt_cmpR op_ne (pe_callB (lenK (K := K)) (by rfl) B.len_ (by decide +kernel) (pa_cons (pv 1) pa_nil)) pe_int (nomark _))))))) (fun _ _ _ _ _ => (pv 1))) (pe_lst pa_nil) (nomark _)))))), ?_⟩)
  · obtain ⟨v, d, p, rfl, _⟩ := h; rfl
  · obtain ⟨v, d, p, rfl, hd, hl, q⟩ := h
    have ty := hd.ty
    have k1 := kit_tu (K := K) d
    cases e : isTu d with
    | false =>
      rw [isPs_no e] at q
      rw [e] at k1
      try walk_at "go"
      exact q H (Same.refl H)
    | true =>
      rw [e] at k1
      obtain ⟨ds, rfl⟩ := isTu_inv e
      obtain ⟨a, tr, rfl, rfl, ha, htr⟩ := hd.tup_inv
      try walk_at "go"
      intro D hD
      refine lc_tup (K := K) (a := a) (xs := tr.map fun t => t.1) (fun i H' => Kept (Same H H' ∧ H' D = some (.lst (((tr.take i).filter fun t => !isT2 t.2).map fun t => t.1)))) ⟨⟨same_new hD _, upd_same⟩⟩ (fun i H' _ h => SqT.of (h.ex.1 _ _ ha)) ?_ ?_
      · rintro i x H2 hx ⟨S2, oD⟩
        rw [List.getElem?_map] at hx
        obtain ⟨t, ht, rfl⟩ := Option.map_eq_some_iff.mp hx
        have il := (List.getElem?_eq_some_iff.mp ht).1
        have th := (htr t (List.mem_of_getElem? ht)).same S2
        have tyt := th.ty
        have kt := kit_tu (K := K) t.2
        have hl' : tr.length ≤ 100 := by have : (tr.map fun t => t.2).length ≤ 100 := hl; rwa [List.length_map] at this
        have ll : ((((tr.take i).filter fun t => !isT2 t.2).map fun t => t.1)).length ≤ 100 := by
          rw [List.length_map]; have := List.length_filter_le (fun t : V × PyData => !isT2 t.2) (tr.take i); rw [List.length_take] at this; omega
        have fS : ∀ b, isT2 t.2 = b → ((tr.take (i + 1)).filter fun t => !isT2 t.2).map (fun t => t.1) = if b = true then ((tr.take i).filter fun t => !isT2 t.2).map (fun t => t.1) else ((tr.take i).filter fun t => !isT2 t.2).map (fun t => t.1) ++ [t.1] := fun b hb => by
          rw [List.take_succ, ht, List.filter_append, List.map_append]
          cases b with
          | true => rw [if_pos rfl, show (some t).toList = [t] from rfl, List.filter_cons_of_neg (by rw [hb]; decide)]; simp
          | false => rw [if_neg (by decide), show (some t).toList = [t] from rfl, List.filter_cons_of_pos (by rw [hb]; rfl)]; rfl
        cases e2 : isTu t.2 with
        | false =>
          rw [e2] at kt
          have e3 : isT2 t.2 = false := by cases h : t.2 <;> first | rfl | (rw [h] at e2; cases e2)
          try walk_at "go"
          exact ⟨⟨but_same hD S2 But.upd, by rw [upd_same, fS false e3] <;> rfl⟩⟩
        | true =>
          rw [e2] at kt
          obtain ⟨ds, hds⟩ := isTu_inv e2
          rw [hds] at th
          obtain ⟨b, tr2, hb1, rfl, hb2, htr2⟩ := th.tup_inv
          have l2 : isT2 t.2 = decide (tr2.length = 2) := by
            rw [hds]
            match tr2 with
            | [] => rfl
            | [_] => rfl
            | [_, _] => rfl
            | _ :: _ :: _ :: _ => exact (decide_eq_false (by simp)).symm
          rw [hb1]
          rw [hb1] at tyt
          try walk_at "go"
          by_cases c : tr2.length = 2
          · rw [decide_eq_true c] at l2
            have e5 : (!decide (V.int ((tr2.map fun t => t.1).length : Nat) = V.int 2)) = false := by rw [List.length_map, c] <;> rfl
            try walk_at "go"
            exact ifF e5 ⟨⟨S2, by rw [oD, fS true l2] <;> rfl⟩⟩
          · rw [decide_eq_false c] at l2
            have e5 : (!decide (V.int ((tr2.map fun t => t.1).length : Nat) = V.int 2)) = true := by rw [List.length_map, decide_eq_false fun z => c (by have := V.int.inj z; omega)] <;> rfl
            try walk_at "go"
            refine ifT e5 ?_
            try walk_at "go"
            exact ⟨⟨but_same hD S2 But.upd, by rw [upd_same, fS false l2, hb1] <;> rfl⟩⟩
      rintro H2 ⟨S2, oD⟩
      rw [List.length_map, List.take_length] at oD
      have eq_ : ((tr.filter fun t => !isT2 t.2).map fun t => t.1).isEmpty = isPs (.tuple (tr.map fun t => t.2)) := by
        exact filt_all
      rw [← eq_] at q
      try walk_at "go"
      intro N hN
      generalize eH3 : upd _ N _ = H3
      have SH3 := newS eH3 hN
      have oN := newO eH3
      try walk_at "go"
      exact q _ (S2.trans SH3)
def pdV (k : Nat) (d : PyData) : V := if okH k d = false then .str "NoHand" else if okS k d = false then .str "NoSide" else .non
def spPDue (K : PySem.W.Frag) : Sp := fun vs H Q _ => ∃ (v : V) (d : PyData) (p : Addr) (k : Nat), vs = [.int k, v] ∧ k ≤ 4 ∧ Th K p H v d ∧ (psD d).length ≤ 100 ∧ ∀ H', Same H H' → Q (pdV k d) H'
theorem k__law_pairs_due (D : Df K mg "_law_pairs_due" s__law_pairs_due ["_law_k", "_law_pairs_here"]) (D__law_are_pairs : Dn P w K mg base 1 "_law_are_pairs" ["_law_thing"] (spArP K)) (D__law_within : Dn P w K mg base 2 "_law_within" ["_law_k", "_law_thing"] (spWiT K)) : Dn P w K mg base 3 "_law_pairs_due" ["_law_k", "_law_pairs_here"] (spPDue K) := by
  refine D.ok fun f fd F => okG0 F sc__law_pairs_due (fun vs H Q E h => ?_) (fun cdv A outer s H vs Q E hr h => ⟨_, (pss_cons (ps_if (PW.pt (pw_or (pt_not (pt_val (pe_cD D__law_are_pairs (hr.less (by decide)) rfl (pa_cons (pv 1) pa_nil)))) (pw_or1 (pt_not (pt_val (pe_callB (kk (K := K) (F := rAll) (P := CallR _ _) (cr_all rfl)) (by rfl) B.all_ (by decide +kernel) (pa_cons (pe_lc (own := [("_law_hand", 2), ("_law_goal", 3)]) (tt := tYes) rfl sc__law_pairs_due.nd (kk (K := K) (F := fun K => iTup K _) (P := PI _ _ _) (pi_tup (pv 1))) (blkOk_by (own := [("_law_hand", 2), ("_law_goal", 3)]) (N := ["_law_k", "_law_pairs_here", "_law_hand", "_law_goal"]) (sc := defScope s__law_pairs_due) (by decide +kernel)) (fun _ _ _ _ _ => (kk (K := K) (F := fun K => gTup K 2 _) (P := PG _ _) (pg_tup rfl (pgs_cons (pg_name (i := 2) sc__law_pairs_due.nd rfl (Or.inl rfl)) (pgs_cons (pg_name (i := 3) sc__law_pairs_due.nd rfl (Or.inl rfl)) pgs_nil))))) (fun _ _ _ _ _ => pts_nil) (fun _ _ _ _ _ => (pe_cD D__law_within (hr.less (by decide)) rfl (pa_cons (pv 0) (pa_cons (pv 2) pa_nil))))) pa_nil)))))))
      (pss_one (ps_ret pe_str))
      pss_nil)
    (pss_one (ps_ret (pe_ix (kk (K := K) (F := rIxL) (P := IxR _) ix_list) (pe_lst (pa_cons pe_non (pa_cons pe_str pa_nil))) (pe_callTy call_int1 (by rfl) B.int_ (by decide +kernel) (pa_cons (pe_not (pe_callB (kk (K := K) (F := rAll) (P := CallR _ _) (cr_all rfl)) (by rfl) B.all_ (by decide +kernel) (pa_cons (pe_lc (own := [("_law_hand", 2), ("_law_goal", 3)]) (tt := tYes) rfl sc__law_pairs_due.nd (kk (K := K) (F := fun K => iTup K _) (P := PI _ _ _) (pi_tup (pv 1))) (blkOk_by (own := [("_law_hand", 2), ("_law_goal", 3)]) (N := ["_law_k", "_law_pairs_here", "_law_hand", "_law_goal"]) (sc := defScope s__law_pairs_due) (by decide +kernel)) (fun _ _ _ _ _ => (kk (K := K) (F := fun K => gTup K 2 _) (P := PG _ _) (pg_tup rfl (pgs_cons (pg_name (i := 2) sc__law_pairs_due.nd rfl (Or.inl rfl)) (pgs_cons (pg_name (i := 3) sc__law_pairs_due.nd rfl (Or.inl rfl)) pgs_nil))))) (fun _ _ _ _ _ => pts_nil) (fun _ _ _ _ _ => (pe_cD D__law_within (hr.less (by decide)) rfl (pa_cons (pv 0) (pa_cons (pv 3) pa_nil))))) pa_nil))) pa_nil)) (fun _ _ => rfl))))), ?_⟩)
  · obtain ⟨v, d, p, k, rfl, _⟩ := h; rfl
  · obtain ⟨v, d, p, k, rfl, hk, hd, hl, q⟩ := h
    try walk_at "go"
    intro H1 S1
    unfold pdV okH at q
    cases e : isPs d with
    | false =>
      rw [e, Bool.false_and] at q
      rw [if_pos rfl] at q
      try walk_at "go"
      exact q H1 S1
    | true =>
      rw [e, Bool.true_and] at q
      have et : isTu d = true := by cases h : isTu d with | true => rfl | false => rw [isPs_no h] at e; cases e
      obtain ⟨ds, rfl⟩ := isTu_inv et
      obtain ⟨a, tr, rfl, rfl, ha, htr⟩ := hd.tup_inv
      have e' : (tr.map fun t => t.2).all isT2 = true := e
      have ha1 := S1 _ _ ha
      have l100 : tr.length ≤ 100 := by
        have : (tr.map fun t => t.2).length ≤ 100 := hl
        rw [List.length_map] at this; exact this
      try walk_at "go"
      intro D hD
      refine lc_tup (K := K) (a := a) (xs := tr.map fun t => t.1) (fun i H' => Kept (Same H1 H' ∧ H' D = some (.lst (((tr.take i).map fun t => isL k (pr1 t.2)).map V.bl)))) ⟨⟨same_new hD _, upd_same⟩⟩ (fun i H' _ h => SqT.of (h.ex.1 _ _ ha1)) ?_ ?_
      · rintro i x H' hx ⟨S2, hD1⟩
        rw [List.getElem?_map] at hx
        obtain ⟨t, ht, rfl⟩ := Option.map_eq_some_iff.mp hx
        have il := (List.getElem?_eq_some_iff.mp ht).1
        have hm := List.mem_of_getElem? ht
        obtain ⟨b, x, y, hb, hbt, hx1, hy1⟩ := t2_inv ((htr _ hm).same (S1.trans S2)) (snd_all e' t hm)
        rw [hb]
        have li : (((tr.take i).map fun t => isL k (pr1 t.2)).map V.bl).length ≤ 100 := by rw [List.length_map, List.length_map, List.length_take]; omega
        try walk_at "go"
        exact ⟨⟨but_same hD S2 But.upd, by rw [upd_same, boolsS, tkS ht]⟩⟩
      rintro H2 ⟨S2, hD2⟩
      rw [List.length_map, List.take_length] at hD2
      have hH : ((tr.map fun t => isL k (pr1 t.2))).all id = (tr.map fun t => t.2).all (fun d => isL k (pr1 d)) := all_snd (f := fun d => isL k (pr1 d))
      have ha2 := S2 _ _ ha1
      replace q : ∀ H', Same H H' → Q (if (tr.map fun t => t.2).all (fun d => isL k (pr1 d)) = false then .str "NoHand" else if (tr.map fun t => t.2).all (fun d => isL k (pr2 d)) = false then .str "NoSide" else .non) H' := q
      rw [← hH] at q
      try walk_at "go"
      cases e1 : ((tr.map fun t => isL k (pr1 t.2))).all id with
      | false =>
        rw [e1, if_pos rfl] at q
        try walk_at "go"
        exact q _ (S1.trans S2)
      | true =>
        rw [e1, if_neg (by decide)] at q
        try walk_at "go"
        intro M hM
        generalize eH3 : upd _ M _ = H3
        have SH3 := newS eH3 hM
        have oM := newO eH3
        try walk_at "go"
        intro D2 hD2'
        have ha3 := SH3 _ _ ha2
        refine lc_tup (K := K) (a := a) (xs := tr.map fun t => t.1) (fun i H' => Kept (Same H3 H' ∧ H' D2 = some (.lst (((tr.take i).map fun t => isL k (pr2 t.2)).map V.bl)))) ⟨⟨same_new hD2' _, upd_same⟩⟩ (fun i H' _ h => SqT.of (h.ex.1 _ _ ha3)) ?_ ?_
        · rintro i x H' hx ⟨S4, hD4⟩
          rw [List.getElem?_map] at hx
          obtain ⟨t, ht, rfl⟩ := Option.map_eq_some_iff.mp hx
          have il := (List.getElem?_eq_some_iff.mp ht).1
          have hm := List.mem_of_getElem? ht
          obtain ⟨b, x, y, hb, hbt, hx1, hy1⟩ := t2_inv ((htr _ hm).same (S1.trans (S2.trans (SH3.trans S4)))) (snd_all e' t hm)
          rw [hb]
          have li : (((tr.take i).map fun t => isL k (pr2 t.2)).map V.bl).length ≤ 100 := by rw [List.length_map, List.length_map, List.length_take]; omega
          try walk_at "go"
          exact ⟨⟨but_same hD2' S4 But.upd, by rw [upd_same, boolsS, tkS ht]⟩⟩
        rintro H4 ⟨S4, hD4⟩
        rw [List.length_map, List.take_length] at hD4
        have hG : ((tr.map fun t => isL k (pr2 t.2))).all id = (tr.map fun t => t.2).all (fun d => isL k (pr2 d)) := all_snd (f := fun d => isL k (pr2 d))
        have oM4 := S4 _ _ oM
        try walk_at "go"
        rw [← hG] at q
        cases e2 : ((tr.map fun t => isL k (pr2 t.2))).all id with
        | false =>
          rw [e2, if_pos rfl] at q
          refine .inr ⟨_, rfl, ?_⟩
          have ix : atI [V.non, V.str "NoSide"] (if (!false) = true then (1 : Int) else 0) = some (V.str "NoSide") := rfl
          try walk_at "go"
          exact q _ (S1.trans (S2.trans (SH3.trans S4)))
        | true =>
          rw [e2, if_neg (by decide)] at q
          refine .inr ⟨_, rfl, ?_⟩
          have ix : atI [V.non, V.str "NoSide"] (if (!true) = true then (1 : Int) else 0) = some V.non := rfl
          try walk_at "go"
          exact q _ (S1.trans (S2.trans (SH3.trans S4)))
/-! SPLIT -/
def spArS (K : PySem.W.Frag) : Sp := fun vs H Q _ => ∃ (v : V) (d : PyData) (p : Addr) (k : Nat), vs = [.int k, v] ∧ k ≤ 4 ∧ Th K p H v d ∧ ∀ H', Same H H' → Q (.bl (okSd k d)) H'
theorem k__law_are_sides (D : Df K mg "_law_are_sides" s__law_are_sides ["_law_k", "_law_sides"]) (D__law_within : Dn P w K mg base 2 "_law_within" ["_law_k", "_law_thing"] (spWiT K)) : Dn P w K mg base 3 "_law_are_sides" ["_law_k", "_law_sides"] (spArS K) := by
  refine D.ok fun f fd F => okG0 F sc__law_are_sides (fun vs H Q E h => ?_) (fun cdv A outer s H vs Q E hr h => ⟨_, (pss_one (ps_ret (pe_and (pe_callB (kk (K := K) (F := rIsi) (P := CallR _ _) call_isi) (by rfl) B.isinstance_ (by decide +kernel) (pa_cons (pv 1) (pa_cons (pe_bltn (v := .ty "tuple") (u := .type "tuple") (by rfl) B.tuple_ (by decide +kernel) rfl) pa_nil))) (pe_and (pe_cmpR op_eq (pe_callB (lenK (K := K)) (by rfl) B.len_ (by decide +kernel) (pa_cons (pv 1) pa_nil)) (pe_op op_shlW pe_int (pv 0)) (nomark _)) (pe_one (pe_callB (kk (K := K) (F := rAll) (P := CallR _ _) (cr_all rfl)) (by rfl) B.all_ (by decide +kernel) (pa_cons (pe_lc (own := [("_law_goal", 2)]) (g := gName 2) (tt := tYes) rfl sc__law_are_sides.nd (kk (K := K) (F := fun K => iTup K _) (P := PI _ _ _) (pi_tup (pv 1))) (blkOk_by (own := [("_law_goal", 2)]) (N := ["_law_k", "_law_sides", "_law_goal"]) (sc := defScope s__law_are_sides) (by decide +kernel)) (fun _ _ _ _ _ => (pg_name (i := 2) sc__law_are_sides.nd rfl (Or.inl rfl))) (fun _ _ _ _ _ => pts_nil) (fun _ _ _ _ _ => (pe_cD D__law_within (hr.less (by decide)) rfl (pa_cons (pv 0) (pa_cons (pv 2) pa_nil))))) pa_nil))))))), ?_⟩)
  · obtain ⟨v, d, p, k, rfl, _⟩ := h; rfl
  · obtain ⟨v, d, p, k, rfl, hk, hd, q⟩ := h
    have ty := hd.ty
    have k1 := kit_tu (K := K) d
    have hsh : CShl 1 (k : Int) := shl_ok (by omega)
    have e16 : 2 ^ k ≤ 16 := (Nat.pow_le_pow_right (by decide) hk : 2 ^ k ≤ 2 ^ 4)
    cases e : isTu d with
    | false =>
      rw [okSd_no e] at q
      rw [e] at k1
      try walk_at "go"
      exact q H (Same.refl H)
    | true =>
      rw [e] at k1
      obtain ⟨ds, rfl⟩ := isTu_inv e
      obtain ⟨a, tr, rfl, rfl, ha, htr⟩ := hd.tup_inv
      have lm : (tr.map fun t => t.1).length = tr.length := List.length_map _
      have lm2 : (tr.map fun t => t.2).length = tr.length := List.length_map _
      replace q : ∀ H', Same H H' → Q (.bl (decide ((tr.map fun t => t.2).length = 2 ^ k) && (tr.map fun t => t.2).all (isL k))) H' := q
      rw [lm2] at q
      try walk_at "go"
      by_cases el : tr.length = 2 ^ k
      · refine ifT (show decide (V.int ((tr.map fun t => t.1).length : Nat) = V.int (1 * 2 ^ (k : Int).toNat)) = true by rw [lm, p2k, el]; exact decide_eq_true rfl) ?_
        rw [decide_eq_true el, Bool.true_and, ← all_snd] at q
        try walk_at "go"
        intro D hD
        refine lc_tup (K := K) (a := a) (xs := tr.map fun t => t.1) (fun i H' => Kept (Same H H' ∧ H' D = some (.lst (((tr.take i).map fun t => isL k t.2).map V.bl)))) ⟨⟨same_new hD _, upd_same⟩⟩ (fun i H' _ h => SqT.of (h.ex.1 _ _ ha)) ?_ ?_
        · rintro i x H' hx ⟨S1, hD1⟩
          rw [List.getElem?_map] at hx
          obtain ⟨t, ht, rfl⟩ := Option.map_eq_some_iff.mp hx
          have il := (List.getElem?_eq_some_iff.mp ht).1
          have th : Th K p H' t.1 t.2 := (htr _ (List.mem_of_getElem? ht)).same S1
          have li : (((tr.take i).map fun t => isL k t.2).map V.bl).length ≤ 16 := by rw [List.length_map, List.length_map, List.length_take]; omega
          try walk_at "go"
          exact ⟨⟨but_same hD S1 But.upd, by rw [upd_same, boolsS, tkS ht]⟩⟩
        rintro H2 ⟨S2, hD2⟩
        rw [lm, List.take_length] at hD2
        try walk_at "go"
        exact q _ S2
      · refine ifF (show decide (V.int ((tr.map fun t => t.1).length : Nat) = V.int (1 * 2 ^ (k : Int).toNat)) = false by rw [lm, p2k]; exact decide_eq_false fun z => el (by have := V.int.inj z; omega)) ?_
        rw [decide_eq_false el, Bool.false_and] at q
        try walk_at "go"
        exact q H (Same.refl _)
def spArSe (K : PySem.W.Frag) : Sp := fun vs H Q _ => ∃ (v : V) (d : PyData) (p : Addr) (k : Nat), vs = [.int k, v] ∧ k ≤ 4 ∧ Th K p H v d ∧ ∀ H', Same H H' → Q (.bl (isSe k d)) H'
theorem k__law_are_settings (D : Df K mg "_law_are_settings" s__law_are_settings ["_law_k", "_law_thing"]) (D__law_within : Dn P w K mg base 2 "_law_within" ["_law_k", "_law_thing"] (spWiT K)) : Dn P w K mg base 3 "_law_are_settings" ["_law_k", "_law_thing"] (spArSe K) := by
  refine D.ok fun f fd F => okG0 F sc__law_are_settings (fun vs H Q E h => ?_) (fun cdv A outer s H vs Q E hr h => ⟨_, (pss_cons (ps_if (PW.pt (pw_or (pt_not (pt_val (pe_callB (kk (K := K) (F := rIsi) (P := CallR _ _) call_isi) (by rfl) B.isinstance_ (by decide +kernel) (pa_cons (pv 1) (pa_cons (pe_bltn (v := .ty "tuple") (u := .type "tuple") (by rfl) B.tuple_ (by decide +kernel) rfl) pa_nil))))) (pw_or1 (pt_cmpR op_ne (pe_callB (lenK (K := K)) (by rfl) B.len_ (by decide +kernel) (pa_cons (pv 1) pa_nil)) (pv 0) (nomark _)))))
      (pss_one (ps_ret pe_bl))
      pss_nil)
    (pss_cons (ps_for PassesOwn.never rfl (kk (K := K) (F := fun K => iTup K _) (P := PI _ _ _) (pi_tup (pv 1))) (pg_name (i := 2) sc__law_are_settings.nd rfl (Or.inl rfl))
      (pss_cons (ps_if (PW.pt (pw_or (pt_not (pt_val (pe_callB (kk (K := K) (F := rIsi) (P := CallR _ _) call_isi) (by rfl) B.isinstance_ (by decide +kernel) (pa_cons (pv 2) (pa_cons (pe_bltn (v := .ty "tuple") (u := .type "tuple") (by rfl) B.tuple_ (by decide +kernel) rfl) pa_nil))))) (pw_or1 (pt_cmpR op_ne (pe_callB (lenK (K := K)) (by rfl) B.len_ (by decide +kernel) (pa_cons (pv 2) pa_nil)) (pe_op op_shlW pe_int (pe_op op_sub (pv 0) pe_int)) (nomark _)))))
        (pss_one (ps_ret pe_bl))
        pss_nil)
      (pss_one (ps_if (pt_not (pt_val (pe_callB (kk (K := K) (F := rAll) (P := CallR _ _) (cr_all rfl)) (by rfl) B.all_ (by decide +kernel) (pa_cons (pe_lc (own := [("_law_one", 3)]) (g := gName 3) (tt := tYes) rfl sc__law_are_settings.nd (kk (K := K) (F := fun K => iTup K _) (P := PI _ _ _) (pi_tup (pv 2))) (blkOk_by (own := [("_law_one", 3)]) (N := ["_law_k", "_law_thing", "_law_row", "_law_one"]) (sc := defScope s__law_are_settings) (by decide +kernel)) (fun _ _ _ _ _ => (pg_name (i := 3) sc__law_are_settings.nd rfl (Or.inl rfl))) (fun _ _ _ _ _ => pts_nil) (fun _ _ _ _ _ => (pe_cD D__law_within (hr.less (by decide)) rfl (pa_cons pe_int (pa_cons (pv 3) pa_nil))))) pa_nil))))
       (pss_one (ps_ret pe_bl))
       pss_nil))))
    (pss_one (ps_ret pe_bl)))), ?_⟩)
  · obtain ⟨v, d, p, k, rfl, _⟩ := h; rfl
  · obtain ⟨v, d, p, k, rfl, hk, hd, q⟩ := h
    have ty := hd.ty
    have k1 := kit_tu (K := K) d
    cases e : isTu d with
    | false =>
      rw [isSe_no e] at q
      rw [e] at k1
      try walk_at "go"
      exact q H (Same.refl H)
    | true =>
      rw [e] at k1
      obtain ⟨ds, rfl⟩ := isTu_inv e
      obtain ⟨a, tr, rfl, rfl, ha, htr⟩ := hd.tup_inv
      have lm : (tr.map fun t => t.1).length = tr.length := List.length_map _
      have lm2 : (tr.map fun t => t.2).length = tr.length := List.length_map _
      replace q : ∀ H', Same H H' → Q (.bl (decide ((tr.map fun t => t.2).length = k) && (tr.map fun t => t.2).all (isSR k))) H' := q
      rw [lm2] at q
      try walk_at "go"
      by_cases el : tr.length = k
      · refine ifF (show (!decide (V.int ((tr.map fun t => t.1).length : Nat) = V.int (k : Nat))) = false by rw [lm, el, decide_eq_true rfl] <;> rfl) ?_
        rw [decide_eq_true el, Bool.true_and] at q
        try walk_at "go"
        refine for_tup (K := K) (a := a) (xs := tr.map fun t => t.1) (fun i σ H' => Kept (∃ w2 w3, σ = [some (.int (k : Nat)), some (.ref a), w2, w3] ∧ Same H H' ∧ ∀ (j : Nat) (t : V × PyData), j < i → tr[j]? = some t → isSR k t.2 = true)) ⟨⟨_, _, rfl, Same.refl _, fun j t h => absurd h (Nat.not_lt_zero _)⟩⟩ (fun i σ H' _ h => by obtain ⟨_, _, _, S, _⟩ := h.ex; exact SqT.of (S _ _ ha)) ?_ ?_
        · rintro i x σ H1 hx ⟨w2, w3, rfl, S1, hall⟩
          rw [List.getElem?_map] at hx
          obtain ⟨t, ht, rfl⟩ := Option.map_eq_some_iff.mp hx
          have il := (List.getElem?_eq_some_iff.mp ht).1
          have th : Th K p H1 t.1 t.2 := (htr _ (List.mem_of_getElem? ht)).same S1
          have ty1 := th.ty
          have kt1 := kit_tu (K := K) t.2
          have no : isSR k t.2 = false → (tr.map fun t => t.2).all (isSR k) = false := fun h => snd_no ht h
          have nx : isSR k t.2 = true → ∀ (j : Nat) (u : V × PyData), j < i + 1 → tr[j]? = some u → isSR k u.2 = true := fun h j u hj hu => by
            by_cases c : j < i
            · exact hall j u c hu
            · obtain rfl : j = i := by omega
              rw [ht] at hu; cases hu; exact h
          have e1 : (k : Int) - 1 = ((k - 1 : Nat) : Int) := by omega
          have hsh : CShl 1 ((k : Int) - 1) := by rw [e1]; exact shl_ok (by omega)
          have eL : (1 : Int) * 2 ^ (((k : Nat) : Int) - 1).toNat = ((2 ^ (k - 1) : Nat) : Int) := by rw [Int.one_mul, e1, Int.toNat_natCast]; push_cast; rfl
          have e8 : 2 ^ (k - 1) ≤ 8 := (Nat.pow_le_pow_right (by decide) (by omega) : 2 ^ (k - 1) ≤ 2 ^ 3)
          cases e2 : isTu t.2 with
          | false =>
            rw [no (isSR_no e2)] at q
            rw [e2] at kt1
            try walk_at "go"
            exact q _ S1
          | true =>
            rw [e2] at kt1
            obtain ⟨ds, hds⟩ := isTu_inv e2
            rw [hds] at th
            obtain ⟨b, tr2, hb1, rfl, hb2, htr2⟩ := th.tup_inv
            rw [hds] at no nx
            have l1 : (tr2.map fun t => t.1).length = tr2.length := List.length_map _
            have l2 : (tr2.map fun t => t.2).length = tr2.length := List.length_map _
            replace no : (decide ((tr2.map fun t => t.2).length = 2 ^ (k - 1)) && (tr2.map fun t => t.2).all fun d => isR d 0 1) = false → _ := no
            replace nx : (decide ((tr2.map fun t => t.2).length = 2 ^ (k - 1)) && (tr2.map fun t => t.2).all fun d => isR d 0 1) = true → _ := nx
            rw [l2] at no nx
            rw [hb1]
            rw [hb1] at ty1
            try walk_at "go"
            by_cases c : tr2.length = 2 ^ (k - 1)
            · refine ifF (show (!decide (V.int ((tr2.map fun t => t.1).length : Nat) = V.int (1 * 2 ^ (((k : Nat) : Int) - 1).toNat))) = false by rw [eL, l1, c, decide_eq_true rfl] <;> rfl) ?_
              rw [decide_eq_true c, Bool.true_and, ← all_snd] at no nx
              try walk_at "go"
              intro D hD
              refine lc_tup (K := K) (a := b) (xs := tr2.map fun t => t.1) (fun i H' => Kept (Same H1 H' ∧ H' D = some (.lst (((tr2.take i).map fun t => isR t.2 0 1).map V.bl)))) ⟨⟨same_new hD _, upd_same⟩⟩ (fun i H' _ h => SqT.of (h.ex.1 _ _ hb2)) ?_ ?_
              · rintro n x H' hx ⟨S2, hD1⟩
                rw [List.getElem?_map] at hx
                obtain ⟨u, hu, rfl⟩ := Option.map_eq_some_iff.mp hx
                have il := (List.getElem?_eq_some_iff.mp hu).1
                have thu : Th K p H' u.1 u.2 := (htr2 _ (List.mem_of_getElem? hu)).same S2
                have li : (((tr2.take n).map fun t => isR t.2 0 1).map V.bl).length ≤ 16 := by rw [List.length_map, List.length_map, List.length_take]; omega
                try walk_at "go"
                exact ⟨⟨but_same hD S2 But.upd, by rw [upd_same, show isL 1 u.2 = isR u.2 0 1 from rfl, boolsS, tkS hu]⟩⟩
              rintro H2 ⟨S2, hD2⟩
              rw [l1, List.take_length] at hD2
              try walk_at "go"
              cases e3 : ((tr2.map fun t => isR t.2 0 1)).all id with
              | false =>
                rw [no e3] at q
                try walk_at "go"
                exact q _ (S1.trans S2)
              | true =>
                try walk_at "go"
                exact ⟨⟨_, _, rfl, S1.trans S2, nx e3⟩⟩
            · refine ifT (show (!decide (V.int ((tr2.map fun t => t.1).length : Nat) = V.int (1 * 2 ^ (((k : Nat) : Int) - 1).toNat))) = true by rw [eL, l1, decide_eq_false fun z => c (by have := V.int.inj z; omega)] <;> rfl) ?_
              rw [no (by rw [decide_eq_false c, Bool.false_and])] at q
              try walk_at "go"
              exact q _ S1
        · rintro σ H1 ⟨w2, w3, rfl, S1, hall⟩
          rw [snd_done fun i t h => hall i t (by rw [List.length_map]; exact (List.getElem?_eq_some_iff.mp h).1) h] at q
          try walk_at "go"
          exact q _ S1
      · refine ifT (show (!decide (V.int ((tr.map fun t => t.1).length : Nat) = V.int (k : Nat))) = true by rw [lm, decide_eq_false fun z => el (by have := V.int.inj z; omega)] <;> rfl) ?_
        rw [decide_eq_false el, Bool.false_and] at q
        try walk_at "go"
        exact q H (Same.refl _)
/-! SPLIT -/
def dueK (k w : Nat) (x : D8) : Option Str :=
  if w < 2 then (if isL k x.one.2 = false then some "NoHand" else if isL k x.goal.2 = false then some "NoSide" else none) else
  if w = 2 then (if (isL k x.one.2 && isL k x.other.2 && !decide (wnN x.one.2 = wnN x.other.2)) = false then some "NoHand" else none) else
  if w = 3 then (if (isL k x.goal.2 && isL k x.last.2 && !decide (wnN x.goal.2 = wnN x.last.2)) = false then some "NoSide" else none) else
  if w = 4 then (if okH k x.pairs.2 = false then some "NoHand" else if okS k x.pairs.2 = false then some "NoSide" else none) else
  if w = 5 then (if okSd k x.sides.2 = false then some "NoSide" else none) else
  if w = 6 then (if isSe k x.sets.2 = false then some "NoSettings" else none) else none
def dueS (w : Nat) (x : D8) : Option Str := if isR x.k.2 0 4 = false then some "NoNet" else dueK (wnN x.k.2) w x
def dV : Option Str → V
  | none => .non
  | some s => .str s
def spDue (K : PySem.W.Frag) : Sp := fun vs H Q _ => ∃ (L p : Addr) (x : D8) (w : Nat) (S : Addr → Prop), vs = [.int w, .ref L] ∧ D8.at_ K S H L x ∧ S p ∧ w < 8 ∧ ∀ H', Same H H' → Q (dV (dueS w x)) H'
theorem k__law_due (D : Df K mg "_law_due" s__law_due ["_law_way_of", "_law_drawn_here"]) (D__law_number : Dn P w K mg base 1 "_law_number" ["_law_thing"] (spNmT K)) (D__law_within : Dn P w K mg base 2 "_law_within" ["_law_k", "_law_thing"] (spWiT K)) (D__law_pairs_due : Dn P w K mg base 3 "_law_pairs_due" ["_law_k", "_law_pairs_here"] (spPDue K)) (D__law_are_sides : Dn P w K mg base 3 "_law_are_sides" ["_law_k", "_law_sides"] (spArS K)) (D__law_are_settings : Dn P w K mg base 3 "_law_are_settings" ["_law_k", "_law_thing"] (spArSe K)) : Dn P w K mg base 4 "_law_due" ["_law_way_of", "_law_drawn_here"] (spDue K) := by
  refine D.ok fun f fd F => okG0 F sc__law_due (fun vs H Q E h => ?_) (fun cdv A outer s H vs Q E hr h => ⟨_, (pss_cons (ps_asg (pe_slice (kk (K := K) (F := rSlL) (P := L2.SlR _) sl_list) (pv 1) po_none (po_some pe_int)) (kk (K := K) (F := fun K => gLstU K 5 _) (P := PG _ _) (pg_lstU rfl (pgs_cons (pg_name (i := 2) sc__law_due.nd rfl (Or.inl rfl)) (pgs_cons (pg_name (i := 3) sc__law_due.nd rfl (Or.inl rfl)) (pgs_cons (pg_name (i := 4) sc__law_due.nd rfl (Or.inl rfl)) (pgs_cons (pg_name (i := 5) sc__law_due.nd rfl (Or.inl rfl)) (pgs_cons (pg_name (i := 6) sc__law_due.nd rfl (Or.inl rfl)) pgs_nil))))))))
    (pss_cons (ps_asg (pe_slice (kk (K := K) (F := rSlL) (P := L2.SlR _) sl_list) (pv 1) (po_some pe_int) po_none) (kk (K := K) (F := fun K => gLstU K 3 _) (P := PG _ _) (pg_lstU rfl (pgs_cons (pg_name (i := 7) sc__law_due.nd rfl (Or.inl rfl)) (pgs_cons (pg_name (i := 8) sc__law_due.nd rfl (Or.inl rfl)) (pgs_cons (pg_name (i := 9) sc__law_due.nd rfl (Or.inl rfl)) pgs_nil))))))
    (pss_cons (ps_if (PW.pt (pw_or (pt_not (pt_val (pe_cD D__law_number (hr.less (by decide)) rfl (pa_cons (pv 2) pa_nil)))) (pw_or (pt_cmpR op_lt (pv 2) pe_int (nomark _)) (pw_or1 (pt_cmpR op_gt (pv 2) pe_int (nomark _))))))
      (pss_one (ps_ret pe_str))
      pss_nil)
    (pss_cons (ps_set (i := 10) sc__law_due.nd rfl (Or.inl rfl) (pe_lst (pa_cons (pe_cD D__law_within (hr.less (by decide)) rfl (pa_cons (pv 2) (pa_cons (pv 3) pa_nil))) (pa_cons (pe_cD D__law_within (hr.less (by decide)) rfl (pa_cons (pv 2) (pa_cons (pv 4) pa_nil))) pa_nil))))
    (pss_cons (ps_set (i := 11) sc__law_due.nd rfl (Or.inl rfl) (pe_lst (pa_cons (pe_cD D__law_within (hr.less (by decide)) rfl (pa_cons (pv 2) (pa_cons (pv 5) pa_nil))) (pa_cons (pe_cD D__law_within (hr.less (by decide)) rfl (pa_cons (pv 2) (pa_cons (pv 6) pa_nil))) pa_nil))))
    (pss_cons (ps_if (pt_cmpR op_lt (pv 0) pe_int (nomark _))
      (pss_one (ps_ret (pe_ifExp (pt_not (pt_val (pe_ix (kk (K := K) (F := rIxL) (P := IxR _) ix_list) (pv 10) pe_int (fun _ _ => rfl)))) pe_str (pe_ix (kk (K := K) (F := rIxL) (P := IxR _) ix_list) (pe_lst (pa_cons pe_non (pa_cons pe_str pa_nil))) (pe_callTy call_int1 (by rfl) B.int_ (by decide +kernel) (pa_cons (pe_not (pe_ix (kk (K := K) (F := rIxL) (P := IxR _) ix_list) (pv 11) pe_int (fun _ _ => rfl))) pa_nil)) (fun _ _ => rfl)))))
      pss_nil)
    (pss_cons (ps_if (pt_cmpR op_eq (pv 0) pe_int (nomark _))
      (pss_one (ps_ret (pe_ix (kk (K := K) (F := rIxL) (P := IxR _) ix_list) (pe_lst (pa_cons pe_non (pa_cons pe_str pa_nil))) (pe_callTy call_int1 (by rfl) B.int_ (by decide +kernel) (pa_cons (pe_or (pe_not (pe_callB (kk (K := K) (F := rAll) (P := CallR _ _) (cr_all rfl)) (by rfl) B.all_ (by decide +kernel) (pa_cons (pv 10) pa_nil))) (pe_one (pe_cmpR op_eq (pv 3) (pv 4) (nomark _)))) pa_nil)) (fun _ _ => rfl))))
      pss_nil)
    (pss_cons (ps_if (pt_cmpR op_eq (pv 0) pe_int (nomark _))
      (pss_one (ps_ret (pe_ix (kk (K := K) (F := rIxL) (P := IxR _) ix_list) (pe_lst (pa_cons pe_non (pa_cons pe_str pa_nil))) (pe_callTy call_int1 (by rfl) B.int_ (by decide +kernel) (pa_cons (pe_or (pe_not (pe_callB (kk (K := K) (F := rAll) (P := CallR _ _) (cr_all rfl)) (by rfl) B.all_ (by decide +kernel) (pa_cons (pv 11) pa_nil))) (pe_one (pe_cmpR op_eq (pv 5) (pv 6) (nomark _)))) pa_nil)) (fun _ _ => rfl))))
      pss_nil)
    (pss_cons (ps_if (pt_cmpR op_eq (pv 0) pe_int (nomark _))
      (pss_one (ps_ret (pe_cD D__law_pairs_due (hr.less (by decide)) rfl (pa_cons (pv 2) (pa_cons (pv 7) pa_nil)))))
      pss_nil)
    (pss_cons (ps_if (pt_cmpR op_eq (pv 0) pe_int (nomark _))
      (pss_one (ps_ret (pe_ix (kk (K := K) (F := rIxL) (P := IxR _) ix_list) (pe_lst (pa_cons pe_non (pa_cons pe_str pa_nil))) (pe_callTy call_int1 (by rfl) B.int_ (by decide +kernel) (pa_cons (pe_not (pe_cD D__law_are_sides (hr.less (by decide)) rfl (pa_cons (pv 2) (pa_cons (pv 8) pa_nil)))) pa_nil)) (fun _ _ => rfl))))
      pss_nil)
    (pss_one (ps_ret (pe_ix (kk (K := K) (F := rIxL) (P := IxR _) ix_list) (pe_lst (pa_cons pe_non (pa_cons pe_str pa_nil))) (pe_callTy call_int1 (by rfl) B.int_ (by decide +kernel) (pa_cons (pe_and (pe_cmpR op_eq (pv 0) pe_int (nomark _)) (pe_one (pe_not (pe_cD D__law_are_settings (hr.less (by decide)) rfl (pa_cons (pv 2) (pa_cons (pv 9) pa_nil)))))) pa_nil)) (fun _ _ => rfl)))))))))))))), ?_⟩)
  · obtain ⟨L, p, x, w, S, rfl, _⟩ := h; rfl
  · obtain ⟨L, p, x, w, S, rfl, hx, hp, hw, q⟩ := h
    have oL := hx.o
    have tk := hx.k.th hp
    have t1 := hx.one.th hp
    have t2 := hx.other.th hp
    have t3 := hx.goal.th hp
    have t4 := hx.last.th hp
    have t5 := hx.pairs.th hp
    have t6 := hx.sides.th hp
    have t7 := hx.sets.th hp
    have n5 := hx.n
    clear hx
    obtain ⟨⟨vk, dk⟩, ⟨v1, d1⟩, ⟨v2, d2⟩, ⟨v3, d3⟩, ⟨v4, d4⟩, ⟨v5, d5⟩, ⟨v6, d6⟩, ⟨v7, d7⟩⟩ := x
    unfold dueS dueK at q
    dsimp only at *
    have hs1 : cutV [vk, v1, v2, v3, v4, v5, v6, v7] none (some 5) = [vk, v1, v2, v3, v4] := rfl
    have hs2 : cutV [vk, v1, v2, v3, v4, v5, v6, v7] (some 5) none = [v5, v6, v7] := rfl
    try walk_at "go"
    intro A1 hA1
    generalize eH1 : upd _ A1 _ = H1
    have SH1 := newS eH1 hA1
    have oA1 := newO eH1
    rw [hs1] at oA1
    have oL1 := SH1 _ _ oL
    try walk_at "go"
    intro A2 hA2
    generalize eH2 : upd _ A2 _ = H2
    have SH2 := newS eH2 hA2
    have oA2 := newO eH2
    rw [hs2] at oA2
    have S02 := SH1.trans SH2
    try walk_at "go"
    cases e : isWh dk with
    | false =>
      rw [if_pos (isR_no e)] at q
      try walk_at "go"
      exact q _ S02
    | true =>
      obtain ⟨i, rfl⟩ := isWh_inv e
      cases tk.int_inv
      have neg : ¬ (0 ≤ i ∧ i ≤ 4) → isR (.int i) 0 4 = false := fun h => by
        show (decide (0 ≤ i) && decide (i ≤ 4)) = false
        by_cases c : 0 ≤ i
        · rw [decide_eq_false (fun z => h ⟨c, z⟩), Bool.and_false]
        · rw [decide_eq_false c, Bool.false_and]
      try walk_at "go"
      refine ite2 (fun c => ?_) (fun c => ?_)
      · rw [if_pos (neg fun z => by have := of_decide_eq_true c; omega)] at q
        try walk_at "go"
        exact q _ S02
      try walk_at "go"
      refine ite2 (fun c2 => ?_) (fun c2 => ?_)
      · rw [if_pos (neg fun z => by have := of_decide_eq_true c2; omega)] at q
        try walk_at "go"
        exact q _ S02
      obtain ⟨k, rfl⟩ : ∃ k : Nat, i = (k : Int) := ⟨i.toNat, by have := of_decide_eq_false (Bool.eq_false_iff.mpr c); omega⟩
      have hk : k ≤ 4 := by have := of_decide_eq_false (Bool.eq_false_iff.mpr c2); omega
      have ek : wnN (.int (k : Int)) = k := Int.toNat_natCast k
      rw [if_neg (by rw [isR_mk (by omega) (by omega)]; decide), ek] at q
      try walk_at "go"
      intro A3 hA3
      generalize eH3 : upd _ A3 _ = H3
      have SH3 := newS eH3 hA3
      have oA3 := newO eH3
      replace oA3 : H3 A3 = some (.lst ([isL k d1, isL k d2].map V.bl)) := oA3
      try walk_at "go"
      intro A4 hA4
      generalize eH4 : upd _ A4 _ = H4
      have SH4 := newS eH4 hA4
      have oA4 := newO eH4
      replace oA4 : H4 A4 = some (.lst ([isL k d3, isL k d4].map V.bl)) := oA4
      have oA34 := SH4 _ _ oA3
      have S04 := S02.trans (SH3.trans SH4)
      have fin : ∀ (b : Bool) (s : V), [V.non, s][(if b = true then 1 else 0 : Nat)]? = some (if b = true then s else .non) := fun b s => by cases b <;> rfl
      have ix0 : ∀ s, atI [V.non, s] (if (false : Bool) = true then (1 : Int) else 0) = some V.non := fun _ => rfl
      have ix1 : ∀ s, atI [V.non, s] (if (true : Bool) = true then (1 : Int) else 0) = some s := fun _ => rfl
      try walk_at "go"
      refine ite2 (fun c3 => ?_) (fun c3 => ?_)
      · have w2 : w < 2 := by have := of_decide_eq_true c3; omega
        rw [if_pos w2] at q
        cases e1 : isL k d1 with
        | false =>
          rw [e1] at oA34
          rw [if_pos e1] at q
          try walk_at "go"
          exact q _ S04
        | true =>
          rw [e1] at oA34
          rw [if_neg (by rw [e1]; decide)] at q
          try walk_at "go"
          intro M hM
          generalize eH5 : upd _ M _ = H5
          have SH5 := newS eH5 hM
          have oM := newO eH5
          have oA45 := SH5 _ _ oA4
          cases e3 : isL k d3 with
          | false =>
            rw [e3] at oA45
            rw [if_pos e3] at q
            try walk_at "go"
            refine .inr ⟨_, rfl, ?_⟩
            have ix := ix1 (.str "NoSide")
            try walk_at "go"
            exact q _ (S04.trans SH5)
          | true =>
            rw [e3] at oA45
            rw [if_neg (by rw [e3]; decide)] at q
            try walk_at "go"
            refine .inr ⟨_, rfl, ?_⟩
            have ix := ix0 (.str "NoSide")
            try walk_at "go"
            exact q _ (S04.trans SH5)
      have w2 : ¬ w < 2 := by have := of_decide_eq_false (Bool.eq_false_iff.mpr c3); omega
      rw [if_neg w2] at q
      try walk_at "go"
      refine ite2 (fun c4 => ?_) (fun c4 => ?_)
      · have w2 : w = 2 := by have := V.int.inj (of_decide_eq_true c4); omega
        rw [if_pos w2] at q
        try walk_at "go"
        intro M hM
        generalize eH5 : upd _ M _ = H5
        have SH5 := newS eH5 hM
        have oM := newO eH5
        have oA35 := SH5 _ _ oA34
        try walk_at "go"
        have ea : [isL k d1, isL k d2].all id = (isL k d1 && isL k d2) := by simp [List.all]
        rw [ea]
        cases eb : isL k d1 && isL k d2 with
        | false =>
          rw [eb, Bool.false_and, if_pos rfl] at q
          refine ifT rfl ?_
          try walk_at "go"
          refine .inr ⟨_, rfl, ?_⟩
          have ix := ix1 (.str "NoHand")
          try walk_at "go"
          exact q _ (S04.trans SH5)
        | true =>
          rw [eb, Bool.true_and] at q
          rw [Bool.and_eq_true] at eb
          obtain ⟨h, rfl, hh⟩ := line_inv eb.1
          obtain ⟨g, rfl, hg⟩ := line_inv eb.2
          cases t1.int_inv
          cases t2.int_inv
          rw [show wnN (.int (h : Int)) = h from Int.toNat_natCast h, show wnN (.int (g : Int)) = g from Int.toNat_natCast g] at q
          refine ifF rfl ?_
          have ed : decide (V.int (h : Int) = V.int (g : Int)) = decide (h = g) := decide_eq_decide.mpr ⟨fun z => by have := V.int.inj z; omega, fun z => by rw [z]⟩
          try walk_at "go"
          rw [ed]
          refine .inr ⟨_, rfl, ?_⟩
          by_cases c : h = g
          · rw [decide_eq_true c] at q ⊢
            rw [if_pos (show (!true) = false from rfl)] at q
            have ix := ix1 (.str "NoHand")
            try walk_at "go"
            exact q _ (S04.trans SH5)
          · rw [decide_eq_false c] at q ⊢
            rw [if_neg (by decide)] at q
            have ix := ix0 (.str "NoHand")
            try walk_at "go"
            exact q _ (S04.trans SH5)
      have w3 : w ≠ 2 := fun z => c4 (by rw [z]; exact decide_eq_true rfl)
      rw [if_neg w3] at q
      try walk_at "go"
      refine ite2 (fun c5 => ?_) (fun c5 => ?_)
      · have w2 : w = 3 := by have := V.int.inj (of_decide_eq_true c5); omega
        rw [if_pos w2] at q
        try walk_at "go"
        intro M hM
        generalize eH5 : upd _ M _ = H5
        have SH5 := newS eH5 hM
        have oM := newO eH5
        have oA45 := SH5 _ _ oA4
        try walk_at "go"
        have ea : [isL k d3, isL k d4].all id = (isL k d3 && isL k d4) := by simp [List.all]
        rw [ea]
        cases eb : isL k d3 && isL k d4 with
        | false =>
          rw [eb, Bool.false_and, if_pos rfl] at q
          refine ifT rfl ?_
          try walk_at "go"
          refine .inr ⟨_, rfl, ?_⟩
          have ix := ix1 (.str "NoSide")
          try walk_at "go"
          exact q _ (S04.trans SH5)
        | true =>
          rw [eb, Bool.true_and] at q
          rw [Bool.and_eq_true] at eb
          obtain ⟨h, rfl, hh⟩ := line_inv eb.1
          obtain ⟨g, rfl, hg⟩ := line_inv eb.2
          cases t3.int_inv
          cases t4.int_inv
          rw [show wnN (.int (h : Int)) = h from Int.toNat_natCast h, show wnN (.int (g : Int)) = g from Int.toNat_natCast g] at q
          refine ifF rfl ?_
          have ed : decide (V.int (h : Int) = V.int (g : Int)) = decide (h = g) := decide_eq_decide.mpr ⟨fun z => by have := V.int.inj z; omega, fun z => by rw [z]⟩
          try walk_at "go"
          rw [ed]
          refine .inr ⟨_, rfl, ?_⟩
          by_cases c : h = g
          · rw [decide_eq_true c] at q ⊢
            rw [if_pos (show (!true) = false from rfl)] at q
            have ix := ix1 (.str "NoSide")
            try walk_at "go"
            exact q _ (S04.trans SH5)
          · rw [decide_eq_false c] at q ⊢
            rw [if_neg (by decide)] at q
            have ix := ix0 (.str "NoSide")
            try walk_at "go"
            exact q _ (S04.trans SH5)
      have w4 : w ≠ 3 := fun z => c5 (by rw [z]; exact decide_eq_true rfl)
      rw [if_neg w4] at q
      try walk_at "go"
      refine ite2 (fun c6 => ?_) (fun c6 => ?_)
      · have w2 : w = 4 := by have := V.int.inj (of_decide_eq_true c6); omega
        rw [if_pos w2] at q
        try walk_at "go"
        intro H5 S5
        have eq_ : dV (if okH k d5 = false then some "NoHand" else if okS k d5 = false then some "NoSide" else none) = pdV k d5 := by
          unfold pdV; split
          · rfl
          · split <;> rfl
        rw [eq_] at q
        exact q _ (S04.trans S5)
      have w5 : w ≠ 4 := fun z => c6 (by rw [z]; exact decide_eq_true rfl)
      rw [if_neg w5] at q
      try walk_at "go"
      refine ite2 (fun c7 => ?_) (fun c7 => ?_)
      · have w2 : w = 5 := by have := V.int.inj (of_decide_eq_true c7); omega
        rw [if_pos w2] at q
        try walk_at "go"
        intro M hM
        generalize eH5 : upd _ M _ = H5
        have SH5 := newS eH5 hM
        have oM := newO eH5
        try walk_at "go"
        intro H6 S6
        have oM6 := S6 _ _ oM
        try walk_at "go"
        refine .inr ⟨_, rfl, ?_⟩
        cases e6 : okSd k d6 with
        | false =>
          rw [if_pos e6] at q
          have ix := ix1 (.str "NoSide")
          try walk_at "go"
          exact q _ (S04.trans (SH5.trans S6))
        | true =>
          rw [if_neg (by rw [e6]; decide)] at q
          have ix := ix0 (.str "NoSide")
          try walk_at "go"
          exact q _ (S04.trans (SH5.trans S6))
      have w6 : w ≠ 5 := fun z => c7 (by rw [z]; exact decide_eq_true rfl)
      rw [if_neg w6] at q
      try walk_at "go"
      intro M hM
      generalize eH5 : upd _ M _ = H5
      have SH5 := newS eH5 hM
      have oM := newO eH5
      try walk_at "go"
      by_cases c8 : w = 6
      · rw [if_pos c8] at q
        refine ifT (by rw [c8] <;> rfl) ?_
        try walk_at "go"
        intro H6 S6
        have oM6 := S6 _ _ oM
        try walk_at "go"
        refine .inr ⟨_, rfl, ?_⟩
        cases e6 : isSe k d7 with
        | false =>
          rw [if_pos e6] at q
          have ix := ix1 (.str "NoSettings")
          try walk_at "go"
          exact q _ (S04.trans (SH5.trans S6))
        | true =>
          rw [if_neg (by rw [e6]; decide)] at q
          have ix := ix0 (.str "NoSettings")
          try walk_at "go"
          exact q _ (S04.trans (SH5.trans S6))
      · rw [if_neg c8] at q
        refine ifF (decide_eq_false fun z => c8 (by have := V.int.inj z; omega)) ?_
        try walk_at "go"
        refine .inr ⟨_, rfl, ?_⟩
        have ix := ix0 (.str "NoSettings")
        try walk_at "go"
        exact q _ (S04.trans SH5)
/-! SPLIT -/
omit B in
theorem due_net {w : Nat} {x : D8} (h : isR x.k.2 0 4 = false) : dueS w x = some ("NoNet" : Str) := by unfold dueS; rw [if_pos h]
omit B in
theorem due_k {w k : Nat} {x : D8} (h : x.k.2 = .int (k : Nat)) (h4 : k ≤ 4) : dueS w x = dueK k w x := by
  unfold dueS
  rw [h, if_neg (by rw [isR_mk (by omega) (by omega)]; decide), show wnN (.int (k : Int)) = k from Int.toNat_natCast k]
omit B in
theorem isL_mk {k n : Nat} (h : n < 2 ^ k) : isL k (.int (n : Nat)) = true := isR_mk (by omega) (by omega)
def spAsked (K : PySem.W.Frag) (C : Str → Addr) : Sp := fun vs H Q E => ∃ (L p : Addr) (x : D8) (w : Nat) (S : Addr → Prop), vs = [.int w, .ref L] ∧ D8.at_ K S H L x ∧ S p ∧ w < 8 ∧ (dueS w x = none → ∀ v H', Same H H' → Q v H') ∧ (∀ s : Str, dueS w x = some s → ∀ H', Same H H' → E (.ref (C s)) none H')
theorem k__law_asked (D : Df K mg "_law_asked" s__law_asked ["_law_way_of", "_law_drawn_here"]) (D_way : Dx P w K mg base 4 "way" ["k", "hand", "side"] (spWayT K (cAt mg "NoNet") (cAt mg "NoHand") (cAt mg "NoSide"))) (D_switches : Dx P w K mg base 5 "switches" ["k", "hand", "side"] (spSwT K (cAt mg "NoNet") (cAt mg "NoHand") (cAt mg "NoSide"))) (D_meeting : Dx P w K mg base 4 "meeting" ["k", "one", "other"] (spMeetT K (cAt mg "NoNet") (cAt mg "NoHand"))) (D_parting : Dx P w K mg base 4 "parting" ["k", "one", "other"] (spMeetT K (cAt mg "NoNet") (cAt mg "NoSide"))) (D_first_shared : Dx P w K mg base 5 "first_shared" ["k", "pairs"] (spFSh K (cAt mg "NoNet") (cAt mg "NoHand") (cAt mg "NoSide"))) (D_settings_for : Dx P w K mg base 6 "settings_for" ["k", "sides"] (spSFT K (cAt mg "NoNet") (cAt mg "NoSide"))) (D_led : Dx P w K mg base 6 "led" ["k", "settings"] (spLedN K (cAt mg "NoNet") (cAt mg "NoSettings"))) (D_straight : Dx P w K mg base 4 "straight" ["k"] (spStN K (cAt mg "NoNet"))) (D_is_settings : Dx P w K mg base 4 "is_settings" ["k", "thing"] (spISN K (cAt mg "NoNet"))) : Dx P w K mg base 7 "_law_asked" ["_law_way_of", "_law_drawn_here"] (spAsked K (cAt mg)) := by
  refine D.okX fun f fd F => okGX F sc__law_asked (fun vs H Q E h => ?_) (fun cdv A outer s H vs Q E hr h => ⟨_, (pss_cons (ps_asg (pe_slice (kk (K := K) (F := rSlL) (P := L2.SlR _) sl_list) (pv 1) po_none (po_some pe_int)) (kk (K := K) (F := fun K => gLstU K 5 _) (P := PG _ _) (pg_lstU rfl (pgs_cons (pg_name (i := 2) sc__law_asked.nd rfl (Or.inl rfl)) (pgs_cons (pg_name (i := 3) sc__law_asked.nd rfl (Or.inl rfl)) (pgs_cons (pg_name (i := 4) sc__law_asked.nd rfl (Or.inl rfl)) (pgs_cons (pg_name (i := 5) sc__law_asked.nd rfl (Or.inl rfl)) (pgs_cons (pg_name (i := 6) sc__law_asked.nd rfl (Or.inl rfl)) pgs_nil))))))))
    (pss_cons (ps_asg (pe_slice (kk (K := K) (F := rSlL) (P := L2.SlR _) sl_list) (pv 1) (po_some pe_int) po_none) (kk (K := K) (F := fun K => gLstU K 3 _) (P := PG _ _) (pg_lstU rfl (pgs_cons (pg_name (i := 7) sc__law_asked.nd rfl (Or.inl rfl)) (pgs_cons (pg_name (i := 8) sc__law_asked.nd rfl (Or.inl rfl)) (pgs_cons (pg_name (i := 9) sc__law_asked.nd rfl (Or.inl rfl)) pgs_nil))))))
    (pss_cons (ps_if (pt_cmpR op_eq (pv 0) pe_int (nomark _))
      (pss_one (ps_ret (pe_cW D_way (hr.less (by decide)) (takes_of rfl rfl rfl rfl) rfl (pa_cons (pv 2) (pa_cons (pv 3) (pa_cons (pv 5) pa_nil))))))
      pss_nil)
    (pss_cons (ps_if (pt_cmpR op_eq (pv 0) pe_int (nomark _))
      (pss_one (ps_ret (pe_cW D_switches (hr.less (by decide)) (takes_of rfl rfl rfl rfl) rfl (pa_cons (pv 2) (pa_cons (pv 3) (pa_cons (pv 5) pa_nil))))))
      pss_nil)
    (pss_cons (ps_if (pt_cmpR op_eq (pv 0) pe_int (nomark _))
      (pss_one (ps_ret (pe_cW D_meeting (hr.less (by decide)) (takes_of rfl rfl rfl rfl) rfl (pa_cons (pv 2) (pa_cons (pv 3) (pa_cons (pv 4) pa_nil))))))
      pss_nil)
    (pss_cons (ps_if (pt_cmpR op_eq (pv 0) pe_int (nomark _))
      (pss_one (ps_ret (pe_cW D_parting (hr.less (by decide)) (takes_of rfl rfl rfl rfl) rfl (pa_cons (pv 2) (pa_cons (pv 5) (pa_cons (pv 6) pa_nil))))))
      pss_nil)
    (pss_cons (ps_if (pt_cmpR op_eq (pv 0) pe_int (nomark _))
      (pss_one (ps_ret (pe_cW D_first_shared (hr.less (by decide)) (takes_of rfl rfl rfl rfl) rfl (pa_cons (pv 2) (pa_cons (pv 7) pa_nil)))))
      pss_nil)
    (pss_cons (ps_if (pt_cmpR op_eq (pv 0) pe_int (nomark _))
      (pss_one (ps_ret (pe_cW D_settings_for (hr.less (by decide)) (takes_of rfl rfl rfl rfl) rfl (pa_cons (pv 2) (pa_cons (pv 8) pa_nil)))))
      pss_nil)
    (pss_cons (ps_if (pt_cmpR op_eq (pv 0) pe_int (nomark _))
      (pss_one (ps_ret (pe_cW D_led (hr.less (by decide)) (takes_of rfl rfl rfl rfl) rfl (pa_cons (pv 2) (pa_cons (pv 9) pa_nil)))))
      pss_nil)
    (pss_one (ps_ret (pe_lst (pa_cons (pe_cW D_straight (hr.less (by decide)) (takes_of rfl rfl rfl rfl) rfl (pa_cons (pv 2) pa_nil)) (pa_cons (pe_cW D_is_settings (hr.less (by decide)) (takes_of rfl rfl rfl rfl) rfl (pa_cons (pv 2) (pa_cons (pv 9) pa_nil))) pa_nil)))))))))))))), ?_⟩)
  · obtain ⟨L, p, x, w, S, rfl, _⟩ := h; rfl
  · obtain ⟨L, p, x, w, S, rfl, hx, hp, hw, q1, q2⟩ := h
    have oL := hx.o
    have tk := hx.k.th hp
    have t1 := hx.one.th hp
    have t2 := hx.other.th hp
    have t3 := hx.goal.th hp
    have t4 := hx.last.th hp
    have t5 := hx.pairs.th hp
    have t6 := hx.sides.th hp
    have t7 := hx.sets.th hp
    have n5 := hx.n
    clear hx
    have qn := fun h H' S => q2 _ (due_net h) H' S
    have qk := fun k (h : x.k.2 = .int (k : Nat)) (h4 : k ≤ 4) s (e : dueK k w x = some s) H' S => q2 s ((due_k h h4).trans e) H' S
    have q0 := fun k (h : x.k.2 = .int (k : Nat)) (h4 : k ≤ 4) (e : dueK k w x = none) v H' S => q1 ((due_k h h4).trans e) v H' S
    clear q1 q2
    obtain ⟨⟨vk, dk⟩, ⟨v1, d1⟩, ⟨v2, d2⟩, ⟨v3, d3⟩, ⟨v4, d4⟩, ⟨v5, d5⟩, ⟨v6, d6⟩, ⟨v7, d7⟩⟩ := x
    dsimp only at *
    have hs1 : cutV [vk, v1, v2, v3, v4, v5, v6, v7] none (some 5) = [vk, v1, v2, v3, v4] := rfl
    have hs2 : cutV [vk, v1, v2, v3, v4, v5, v6, v7] (some 5) none = [v5, v6, v7] := rfl
    try walk_at "go"
    intro A1 hA1
    generalize eH1 : upd _ A1 _ = H1
    have SH1 := newS eH1 hA1
    have oA1 := newO eH1
    rw [hs1] at oA1
    have oL1 := SH1 _ _ oL
    try walk_at "go"
    intro A2 hA2
    generalize eH2 : upd _ A2 _ = H2
    have SH2 := newS eH2 hA2
    have oA2 := newO eH2
    rw [hs2] at oA2
    have S02 := SH1.trans SH2
    try walk_at "go"
    refine ite2 (fun c => ?_) (fun c1 => ?_)
    · obtain rfl : w = 0 := by have := V.int.inj (of_decide_eq_true c); omega
      have r : ∀ k, dueK k 0 ⟨(vk, dk), (v1, d1), (v2, d2), (v3, d3), (v4, d4), (v5, d5), (v6, d6), (v7, d7)⟩ = (if isL k d1 = false then some ("NoHand" : Str) else if isL k d3 = false then some ("NoSide" : Str) else none) := fun _ => rfl
      try walk_at "go"
      exact ⟨fun k h g e1 e2 e3 hk hh hg T H' S _ => q0 k e1 hk (by rw [r, e2, e3, isL_mk hh, isL_mk hg] <;> rfl) _ H' (S02.trans S), fun h => qn h H2 S02, fun k e1 hk h => qk k e1 hk _ (by rw [r]; exact if_pos h) H2 S02,
        fun k e1 hk h1 h2 => qk k e1 hk _ (by rw [r, if_neg (by rw [show isL k d1 = true from h1]; decide)]; exact if_pos h2) H2 S02⟩
    try walk_at "go"
    refine ite2 (fun c => ?_) (fun c2 => ?_)
    · obtain rfl : w = 1 := by have := V.int.inj (of_decide_eq_true c); omega
      have r : ∀ k, dueK k 1 ⟨(vk, dk), (v1, d1), (v2, d2), (v3, d3), (v4, d4), (v5, d5), (v6, d6), (v7, d7)⟩ = (if isL k d1 = false then some ("NoHand" : Str) else if isL k d3 = false then some ("NoSide" : Str) else none) := fun _ => rfl
      try walk_at "go"
      exact ⟨fun k h g e1 e2 e3 hk hh hg T H' S => q0 k e1 hk (by rw [r, e2, e3, isL_mk hh, isL_mk hg] <;> rfl) _ H' (S02.trans S), fun h => qn h H2 S02, fun k e1 hk h => qk k e1 hk _ (by rw [r]; exact if_pos h) H2 S02,
        fun k e1 hk h1 h2 => qk k e1 hk _ (by rw [r, if_neg (by rw [show isL k d1 = true from h1]; decide)]; exact if_pos h2) H2 S02⟩
    try walk_at "go"
    refine ite2 (fun c => ?_) (fun c3 => ?_)
    · obtain rfl : w = 2 := by have := V.int.inj (of_decide_eq_true c); omega
      have r : ∀ k, dueK k 2 ⟨(vk, dk), (v1, d1), (v2, d2), (v3, d3), (v4, d4), (v5, d5), (v6, d6), (v7, d7)⟩ = (if (isL k d1 && isL k d2 && !decide (wnN d1 = wnN d2)) = false then some ("NoHand" : Str) else none) := fun _ => rfl
      try walk_at "go"
      exact ⟨fun k h g e1 e2 e3 hk hh hg hn x => q0 k e1 hk (by rw [r, e2, e3, isL_mk hh, isL_mk hg, show wnN (.int (h : Int)) = h from Int.toNat_natCast h, show wnN (.int (g : Int)) = g from Int.toNat_natCast g, decide_eq_false hn] <;> rfl) _ H2 S02, fun h => qn h H2 S02,
        fun k e1 hk h => qk k e1 hk _ (by rw [r, show (isL k d1 && isL k d2) = false from h] <;> rfl) H2 S02,
        fun k h e1 hk e2 e3 hh => qk k e1 hk _ (by rw [r, e2, e3, decide_eq_true rfl, Bool.not_true, Bool.and_false] <;> rfl) H2 S02⟩
    try walk_at "go"
    refine ite2 (fun c => ?_) (fun c4 => ?_)
    · obtain rfl : w = 3 := by have := V.int.inj (of_decide_eq_true c); omega
      have r : ∀ k, dueK k 3 ⟨(vk, dk), (v1, d1), (v2, d2), (v3, d3), (v4, d4), (v5, d5), (v6, d6), (v7, d7)⟩ = (if (isL k d3 && isL k d4 && !decide (wnN d3 = wnN d4)) = false then some ("NoSide" : Str) else none) := fun _ => rfl
      try walk_at "go"
      exact ⟨fun k h g e1 e2 e3 hk hh hg hn x => q0 k e1 hk (by rw [r, e2, e3, isL_mk hh, isL_mk hg, show wnN (.int (h : Int)) = h from Int.toNat_natCast h, show wnN (.int (g : Int)) = g from Int.toNat_natCast g, decide_eq_false hn] <;> rfl) _ H2 S02, fun h => qn h H2 S02,
        fun k e1 hk h => qk k e1 hk _ (by rw [r, show (isL k d3 && isL k d4) = false from h] <;> rfl) H2 S02,
        fun k h e1 hk e2 e3 hh => qk k e1 hk _ (by rw [r, e2, e3, decide_eq_true rfl, Bool.not_true, Bool.and_false] <;> rfl) H2 S02⟩
    try walk_at "go"
    refine ite2 (fun c => ?_) (fun c5 => ?_)
    · obtain rfl : w = 4 := by have := V.int.inj (of_decide_eq_true c); omega
      have r : ∀ k, dueK k 4 ⟨(vk, dk), (v1, d1), (v2, d2), (v3, d3), (v4, d4), (v5, d5), (v6, d6), (v7, d7)⟩ = (if okH k d5 = false then some ("NoHand" : Str) else if okS k d5 = false then some ("NoSide" : Str) else none) := fun _ => rfl
      try walk_at "go"
      exact ⟨fun k e1 hk h1 h2 x H' S => q0 k e1 hk (by rw [r, h1, h2] <;> rfl) _ H' (S02.trans S), fun h H' S => qn h H' (S02.trans S), fun k e1 hk h H' S => qk k e1 hk _ (by rw [r]; exact if_pos h) H' (S02.trans S),
        fun k e1 hk h1 h2 H' S => qk k e1 hk _ (by rw [r, h1, h2] <;> rfl) H' (S02.trans S)⟩
    try walk_at "go"
    refine ite2 (fun c => ?_) (fun c6 => ?_)
    · obtain rfl : w = 5 := by have := V.int.inj (of_decide_eq_true c); omega
      have r : ∀ k, dueK k 5 ⟨(vk, dk), (v1, d1), (v2, d2), (v3, d3), (v4, d4), (v5, d5), (v6, d6), (v7, d7)⟩ = (if okSd k d6 = false then some ("NoSide" : Str) else none) := fun _ => rfl
      try walk_at "go"
      exact ⟨fun k e1 hk h1 x H' S => q0 k e1 hk (by rw [r, h1] <;> rfl) _ H' (S02.trans S), fun h H' S => qn h H' (S02.trans S), fun k e1 hk h H' S => qk k e1 hk _ (by rw [r]; exact if_pos h) H' (S02.trans S)⟩
    try walk_at "go"
    refine ite2 (fun c => ?_) (fun c7 => ?_)
    · obtain rfl : w = 6 := by have := V.int.inj (of_decide_eq_true c); omega
      have r : ∀ k, dueK k 6 ⟨(vk, dk), (v1, d1), (v2, d2), (v3, d3), (v4, d4), (v5, d5), (v6, d6), (v7, d7)⟩ = (if isSe k d7 = false then some ("NoSettings" : Str) else none) := fun _ => rfl
      try walk_at "go"
      exact ⟨fun k e1 hk h1 T s _ _ _ U H' S _ => q0 k e1 hk (by rw [r, h1] <;> rfl) _ H' (S02.trans S), fun h H' S => qn h H' (S02.trans S), fun k e1 hk h H' S => qk k e1 hk _ (by rw [r]; exact if_pos h) H' (S02.trans S)⟩
    obtain rfl : w = 7 := by
      have n : ∀ m : Nat, ¬ decide (V.int (w : Nat) = V.int (m : Nat)) = true → w ≠ m := fun m h z => h (by rw [z]; exact decide_eq_true rfl)
      have := n 0 c1; have := n 1 c2; have := n 2 c3; have := n 3 c4; have := n 4 c5; have := n 5 c6; have := n 6 c7
      omega
    have r : ∀ k, dueK k 7 ⟨(vk, dk), (v1, d1), (v2, d2), (v3, d3), (v4, d4), (v5, d5), (v6, d6), (v7, d7)⟩ = none := fun _ => rfl
    try walk_at "go"
    refine ⟨fun k e1 hk T H3 S3 _ => ?_, fun h H' S => qn h H' (S02.trans S)⟩
    try walk_at "go"
    refine ⟨fun k' e1' hk' H4 S4 => ?_, fun h H' S => qn h H' (S02.trans (S3.trans S))⟩
    try walk_at "go"
    intro M hM
    generalize eH5 : upd _ M _ = H5
    have SH5 := newS eH5 hM
    have oM := newO eH5
    exact q0 k e1 hk (r k) _ _ (S02.trans (S3.trans (S4.trans SH5)))
/-! SPLIT -/
omit B in
theorem due_in {w : Nat} {x : D8} {s : Str} (h : dueS w x = some s) : s = ("NoNet" : Str) ∨ s = ("NoHand" : Str) ∨ s = ("NoSide" : Str) ∨ s = ("NoSettings" : Str) := by
  unfold dueS dueK at h
  repeat (first | (split at h) | (cases h; first | exact .inl rfl | exact .inr (.inl rfl) | exact .inr (.inr (.inl rfl)) | exact .inr (.inr (.inr rfl))) | cases h)
def spSaid (K : PySem.W.Frag) : Sp := fun vs H Q _ => ∃ (L p : Addr) (x : D8) (w : Nat) (S : Addr → Prop), vs = [.int w, .ref L] ∧ D8.at_ K S H L x ∧ S p ∧ w < 8 ∧ ∀ H', Same H H' → Q (dV (dueS w x)) H'
theorem k__law_said (D : Df K mg "_law_said" s__law_said ["_law_way_of", "_law_drawn_here"]) (D__law_asked : Dx P w K mg base 7 "_law_asked" ["_law_way_of", "_law_drawn_here"] (spAsked K (cAt mg))) : Dn P w K mg base 8 "_law_said" ["_law_way_of", "_law_drawn_here"] (spSaid K) := by
  refine D.ok fun f fd F => okG0 F sc__law_said (fun vs H Q E h => ?_) (fun cdv A outer s H vs Q E hr h => ⟨_, (pss_cons (ps_try_as (i := 2) rfl rfl sc__law_said.nd rfl rfl ⟨rfl, by decide, .inl B.AskError_.mg_⟩ takes0 (fun W pn xe tk po => (pss_one (ps_expr (pe_cW D__law_asked (hr.less (by decide)) tk rfl (pa_cons (pv 0) (pa_cons (pv 1) pa_nil))))))
      (fun a oe cls d pn hz hf => (pss_cons (ps_set (i := 3) sc__law_said.nd rfl (Or.inl rfl) (pe_lst (pa_cons (pe_callB (call_isX hz hf) (by rfl) B.isinstance_ (by decide +kernel) (pa_cons (pv 2) (pa_cons (pe_glob (v := .ref (cAt mg "NoNet")) (u := .ref (cAt mg "NoNet")) (by rfl) B.NoNet_.mg_ rfl) pa_nil))) (pa_cons (pe_callB (call_isX hz hf) (by rfl) B.isinstance_ (by decide +kernel) (pa_cons (pv 2) (pa_cons (pe_glob (v := .ref (cAt mg "NoHand")) (u := .ref (cAt mg "NoHand")) (by rfl) B.NoHand_.mg_ rfl) pa_nil))) (pa_cons (pe_callB (call_isX hz hf) (by rfl) B.isinstance_ (by decide +kernel) (pa_cons (pv 2) (pa_cons (pe_glob (v := .ref (cAt mg "NoSide")) (u := .ref (cAt mg "NoSide")) (by rfl) B.NoSide_.mg_ rfl) pa_nil))) pa_nil)))))
      (pss_cons (ps_set (i := 3) sc__law_said.nd rfl (Or.inl rfl) (pe_op op_cat (pv 3) (pe_lst (pa_cons (pe_callB (call_isX hz hf) (by rfl) B.isinstance_ (by decide +kernel) (pa_cons (pv 2) (pa_cons (pe_glob (v := .ref (cAt mg "NoSettings")) (u := .ref (cAt mg "NoSettings")) (by rfl) B.NoSettings_.mg_ rfl) pa_nil))) (pa_cons (pe_callB (call_isX hz hf) (by rfl) B.isinstance_ (by decide +kernel) (pa_cons (pv 2) (pa_cons (pe_glob (v := .ref (cAt mg "NoNumber")) (u := .ref (cAt mg "NoNumber")) (by rfl) B.NoNumber_.mg_ rfl) pa_nil))) (pa_cons (pe_callB (call_isX hz hf) (by rfl) B.isinstance_ (by decide +kernel) (pa_cons (pv 2) (pa_cons (pe_glob (v := .ref (cAt mg "NoBoard")) (u := .ref (cAt mg "NoBoard")) (by rfl) B.NoBoard_.mg_ rfl) pa_nil))) pa_nil))))))
      (pss_cons (ps_set (i := 3) sc__law_said.nd rfl (Or.inl rfl) (pe_op op_cat (pv 3) (pe_lst (pa_cons (pe_callB (call_isX hz hf) (by rfl) B.isinstance_ (by decide +kernel) (pa_cons (pv 2) (pa_cons (pe_glob (v := .ref (cAt mg "NoAsk")) (u := .ref (cAt mg "NoAsk")) (by rfl) B.NoAsk_.mg_ rfl) pa_nil))) (pa_cons (pe_callB (call_isX hz hf) (by rfl) B.isinstance_ (by decide +kernel) (pa_cons (pv 2) (pa_cons (pe_glob (v := .ref (cAt mg "TooMany")) (u := .ref (cAt mg "TooMany")) (by rfl) B.TooMany_.mg_ rfl) pa_nil))) pa_nil)))))
      (pss_cons (ps_if (PW.pt (pw_or (pt_not (pt_val (pe_callB (call_isX hz hf) (by rfl) B.isinstance_ (by decide +kernel) (pa_cons (pv 2) (pa_cons (pe_bltn (v := .ty "ValueError") (u := .type "ValueError") (by rfl) B.ValueError_ (by decide +kernel) rfl) pa_nil))))) (pw_or1 (pt_cmpR op_ne (kk (K := K) (F := fun K => tBM K "list" _ _ _) (P := PE _ _) (pe_bm PySem.F.plainAttrs_list PySem.F.slot_list_count PySem.F.type_list_count mt_lcountF (pv 3) (pa_cons pe_bl pa_nil))) pe_int (nomark _)))))
        (pss_one (ps_ret pe_str))
        pss_nil)
      (pss_one (ps_ret (pe_ix (kk (K := K) (F := rIxL) (P := IxR _) ix_list) (pe_op op_cat (pe_lst (pa_cons pe_str (pa_cons pe_str (pa_cons pe_str (pa_cons pe_str pa_nil))))) (pe_op op_rep (pe_lst (pa_cons pe_str pa_nil)) pe_int)) (kk (K := K) (F := fun K => tBM K "list" _ _ _) (P := PE _ _) (pe_bm PySem.F.plainAttrs_list PySem.F.slot_list_index PySem.F.type_list_index mt_index (pv 3) (pa_cons pe_bl pa_nil))) (fun _ _ => rfl))))))))))
    (pss_one (ps_ret pe_non))), ?_⟩)
  · obtain ⟨L, p, x, w, S, rfl, _⟩ := h; rfl
  · obtain ⟨L, p, x, w, S, rfl, hx, hp, hw, q⟩ := h
    try walk_at "go"
    refine ⟨fun e v H' S' => ?_, fun s0 e H1 S1 => ?_⟩
    · have q' := q H' S'
      rw [e] at q'
      try walk_at "go"
      exact q'
    · rw [e] at q
      replace q : ∀ H', Same H H' → Q (.str s0) H' := q
      rcases due_in e with rfl | rfl | rfl | rfl
      · have ex := exm_of B.AskError_ B.NoNet_AskError_
        refine ⟨true, ex, fun _ a ha => ?_, fun z => by cases z⟩
        have k_NoNet := kitO B.NoNet_ B.NoNet_NoNet_ B.NoNet_NoNet_
        have k_NoHand := kitO B.NoHand_ B.NoNet_NoNet_ B.NoNet_NoHand_
        have k_NoSide := kitO B.NoSide_ B.NoNet_NoNet_ B.NoNet_NoSide_
        have k_NoSettings := kitO B.NoSettings_ B.NoNet_NoNet_ B.NoNet_NoSettings_
        have k_NoNumber := kitO B.NoNumber_ B.NoNet_NoNet_ B.NoNet_NoNumber_
        have k_NoBoard := kitO B.NoBoard_ B.NoNet_NoNet_ B.NoNet_NoBoard_
        have k_NoAsk := kitO B.NoAsk_ B.NoNet_NoNet_ B.NoNet_NoAsk_
        have k_TooMany := kitO B.TooMany_ B.NoNet_NoNet_ B.NoNet_TooMany_
        have kv := kitVE B.NoNet_i
        have kc := B.NoNet_i.c
        try walk_at "go"
        intro M1 hM1
        generalize eH2 : upd _ M1 _ = H2
        have SH2 := newS eH2 hM1
        have oM1 := newO eH2
        try walk_at "go"
        intro M2 hM2
        generalize eH3 : upd _ M2 _ = H3
        have SH3 := newS eH3 hM2
        have oM2 := newO eH3
        have oM1 := SH3 _ _ oM1
        try walk_at "go"
        intro M3 hM3
        generalize eH4 : upd _ M3 _ = H4
        have SH4 := newS eH4 hM3
        have oM3 := newO eH4
        try walk_at "go"
        intro M4 hM4
        generalize eH5 : upd _ M4 _ = H5
        have SH5 := newS eH5 hM4
        have oM4 := newO eH5
        have oM3 := SH5 _ _ oM3
        try walk_at "go"
        intro M5 hM5
        generalize eH6 : upd _ M5 _ = H6
        have SH6 := newS eH6 hM5
        have oM5 := newO eH6
        try walk_at "go"
        intro M6 hM6
        generalize eH7 : upd _ M6 _ = H7
        have SH7 := newS eH7 hM6
        have oM6 := newO eH7
        have oM5 := SH7 _ _ oM5
        try walk_at "go"
        intro M7 hM7
        generalize eH8 : upd _ M7 _ = H8
        have SH8 := newS eH8 hM7
        have oM7 := newO eH8
        try walk_at "go"
        intro M8 hM8
        generalize eH9 : upd _ M8 _ = H9
        have SH9 := newS eH9 hM8
        have oM8 := newO eH9
        have oM6 := SH9 _ _ (SH8 _ _ oM6)
        try walk_at "go"
        intro M9 hM9
        generalize eH10 : upd _ M9 _ = H10
        have SH10 := newS eH10 hM9
        have oM9 := newO eH10
        have oM5 := SH10 _ _ (SH9 _ _ (SH8 _ _ oM5))
        try walk_at "go"
        refine ⟨(rfl : ([V.bl true, .bl false, .bl false, .bl false, .bl false, .bl false, .bl false, .bl false] : List V)[0]? = some (V.bl true)), rfl, fun m z' hm hz => ?_, ?_⟩
        · exact absurd hm (Nat.not_lt_zero _)
        try walk_at "go"
        exact q _ (S1.trans (SH2.trans (SH3.trans (SH4.trans (SH5.trans (SH6.trans (SH7.trans (SH8.trans (SH9.trans SH10)))))))))
      · have ex := exm_of B.AskError_ B.NoHand_AskError_
        refine ⟨true, ex, fun _ a ha => ?_, fun z => by cases z⟩
        have k_NoNet := kitO B.NoNet_ B.NoHand_NoHand_ B.NoHand_NoNet_
        have k_NoHand := kitO B.NoHand_ B.NoHand_NoHand_ B.NoHand_NoHand_
        have k_NoSide := kitO B.NoSide_ B.NoHand_NoHand_ B.NoHand_NoSide_
        have k_NoSettings := kitO B.NoSettings_ B.NoHand_NoHand_ B.NoHand_NoSettings_
        have k_NoNumber := kitO B.NoNumber_ B.NoHand_NoHand_ B.NoHand_NoNumber_
        have k_NoBoard := kitO B.NoBoard_ B.NoHand_NoHand_ B.NoHand_NoBoard_
        have k_NoAsk := kitO B.NoAsk_ B.NoHand_NoHand_ B.NoHand_NoAsk_
        have k_TooMany := kitO B.TooMany_ B.NoHand_NoHand_ B.NoHand_TooMany_
        have kv := kitVE B.NoHand_i
        have kc := B.NoHand_i.c
        try walk_at "go"
        intro M1 hM1
        generalize eH2 : upd _ M1 _ = H2
        have SH2 := newS eH2 hM1
        have oM1 := newO eH2
        try walk_at "go"
        intro M2 hM2
        generalize eH3 : upd _ M2 _ = H3
        have SH3 := newS eH3 hM2
        have oM2 := newO eH3
        have oM1 := SH3 _ _ oM1
        try walk_at "go"
        intro M3 hM3
        generalize eH4 : upd _ M3 _ = H4
        have SH4 := newS eH4 hM3
        have oM3 := newO eH4
        try walk_at "go"
        intro M4 hM4
        generalize eH5 : upd _ M4 _ = H5
        have SH5 := newS eH5 hM4
        have oM4 := newO eH5
        have oM3 := SH5 _ _ oM3
        try walk_at "go"
        intro M5 hM5
        generalize eH6 : upd _ M5 _ = H6
        have SH6 := newS eH6 hM5
        have oM5 := newO eH6
        try walk_at "go"
        intro M6 hM6
        generalize eH7 : upd _ M6 _ = H7
        have SH7 := newS eH7 hM6
        have oM6 := newO eH7
        have oM5 := SH7 _ _ oM5
        try walk_at "go"
        intro M7 hM7
        generalize eH8 : upd _ M7 _ = H8
        have SH8 := newS eH8 hM7
        have oM7 := newO eH8
        try walk_at "go"
        intro M8 hM8
        generalize eH9 : upd _ M8 _ = H9
        have SH9 := newS eH9 hM8
        have oM8 := newO eH9
        have oM6 := SH9 _ _ (SH8 _ _ oM6)
        try walk_at "go"
        intro M9 hM9
        generalize eH10 : upd _ M9 _ = H10
        have SH10 := newS eH10 hM9
        have oM9 := newO eH10
        have oM5 := SH10 _ _ (SH9 _ _ (SH8 _ _ oM5))
        try walk_at "go"
        refine ⟨(rfl : ([V.bl false, .bl true, .bl false, .bl false, .bl false, .bl false, .bl false, .bl false] : List V)[1]? = some (V.bl true)), rfl, fun m z' hm hz => ?_, ?_⟩
        · rcases (show m = 0 by omega) with rfl <;> (cases hz; rfl)
        try walk_at "go"
        exact q _ (S1.trans (SH2.trans (SH3.trans (SH4.trans (SH5.trans (SH6.trans (SH7.trans (SH8.trans (SH9.trans SH10)))))))))
      · have ex := exm_of B.AskError_ B.NoSide_AskError_
        refine ⟨true, ex, fun _ a ha => ?_, fun z => by cases z⟩
        have k_NoNet := kitO B.NoNet_ B.NoSide_NoSide_ B.NoSide_NoNet_
        have k_NoHand := kitO B.NoHand_ B.NoSide_NoSide_ B.NoSide_NoHand_
        have k_NoSide := kitO B.NoSide_ B.NoSide_NoSide_ B.NoSide_NoSide_
        have k_NoSettings := kitO B.NoSettings_ B.NoSide_NoSide_ B.NoSide_NoSettings_
        have k_NoNumber := kitO B.NoNumber_ B.NoSide_NoSide_ B.NoSide_NoNumber_
        have k_NoBoard := kitO B.NoBoard_ B.NoSide_NoSide_ B.NoSide_NoBoard_
        have k_NoAsk := kitO B.NoAsk_ B.NoSide_NoSide_ B.NoSide_NoAsk_
        have k_TooMany := kitO B.TooMany_ B.NoSide_NoSide_ B.NoSide_TooMany_
        have kv := kitVE B.NoSide_i
        have kc := B.NoSide_i.c
        try walk_at "go"
        intro M1 hM1
        generalize eH2 : upd _ M1 _ = H2
        have SH2 := newS eH2 hM1
        have oM1 := newO eH2
        try walk_at "go"
        intro M2 hM2
        generalize eH3 : upd _ M2 _ = H3
        have SH3 := newS eH3 hM2
        have oM2 := newO eH3
        have oM1 := SH3 _ _ oM1
        try walk_at "go"
        intro M3 hM3
        generalize eH4 : upd _ M3 _ = H4
        have SH4 := newS eH4 hM3
        have oM3 := newO eH4
        try walk_at "go"
        intro M4 hM4
        generalize eH5 : upd _ M4 _ = H5
        have SH5 := newS eH5 hM4
        have oM4 := newO eH5
        have oM3 := SH5 _ _ oM3
        try walk_at "go"
        intro M5 hM5
        generalize eH6 : upd _ M5 _ = H6
        have SH6 := newS eH6 hM5
        have oM5 := newO eH6
        try walk_at "go"
        intro M6 hM6
        generalize eH7 : upd _ M6 _ = H7
        have SH7 := newS eH7 hM6
        have oM6 := newO eH7
        have oM5 := SH7 _ _ oM5
        try walk_at "go"
        intro M7 hM7
        generalize eH8 : upd _ M7 _ = H8
        have SH8 := newS eH8 hM7
        have oM7 := newO eH8
        try walk_at "go"
        intro M8 hM8
        generalize eH9 : upd _ M8 _ = H9
        have SH9 := newS eH9 hM8
        have oM8 := newO eH9
        have oM6 := SH9 _ _ (SH8 _ _ oM6)
        try walk_at "go"
        intro M9 hM9
        generalize eH10 : upd _ M9 _ = H10
        have SH10 := newS eH10 hM9
        have oM9 := newO eH10
        have oM5 := SH10 _ _ (SH9 _ _ (SH8 _ _ oM5))
        try walk_at "go"
        refine ⟨(rfl : ([V.bl false, .bl false, .bl true, .bl false, .bl false, .bl false, .bl false, .bl false] : List V)[2]? = some (V.bl true)), rfl, fun m z' hm hz => ?_, ?_⟩
        · rcases (show m = 0 ∨ m = 1 by omega) with rfl | rfl <;> (cases hz; rfl)
        try walk_at "go"
        exact q _ (S1.trans (SH2.trans (SH3.trans (SH4.trans (SH5.trans (SH6.trans (SH7.trans (SH8.trans (SH9.trans SH10)))))))))
      · have ex := exm_of B.AskError_ B.NoSettings_AskError_
        refine ⟨true, ex, fun _ a ha => ?_, fun z => by cases z⟩
        have k_NoNet := kitO B.NoNet_ B.NoSettings_NoSettings_ B.NoSettings_NoNet_
        have k_NoHand := kitO B.NoHand_ B.NoSettings_NoSettings_ B.NoSettings_NoHand_
        have k_NoSide := kitO B.NoSide_ B.NoSettings_NoSettings_ B.NoSettings_NoSide_
        have k_NoSettings := kitO B.NoSettings_ B.NoSettings_NoSettings_ B.NoSettings_NoSettings_
        have k_NoNumber := kitO B.NoNumber_ B.NoSettings_NoSettings_ B.NoSettings_NoNumber_
        have k_NoBoard := kitO B.NoBoard_ B.NoSettings_NoSettings_ B.NoSettings_NoBoard_
        have k_NoAsk := kitO B.NoAsk_ B.NoSettings_NoSettings_ B.NoSettings_NoAsk_
        have k_TooMany := kitO B.TooMany_ B.NoSettings_NoSettings_ B.NoSettings_TooMany_
        have kv := kitVE B.NoSettings_i
        have kc := B.NoSettings_i.c
        try walk_at "go"
        intro M1 hM1
        generalize eH2 : upd _ M1 _ = H2
        have SH2 := newS eH2 hM1
        have oM1 := newO eH2
        try walk_at "go"
        intro M2 hM2
        generalize eH3 : upd _ M2 _ = H3
        have SH3 := newS eH3 hM2
        have oM2 := newO eH3
        have oM1 := SH3 _ _ oM1
        try walk_at "go"
        intro M3 hM3
        generalize eH4 : upd _ M3 _ = H4
        have SH4 := newS eH4 hM3
        have oM3 := newO eH4
        try walk_at "go"
        intro M4 hM4
        generalize eH5 : upd _ M4 _ = H5
        have SH5 := newS eH5 hM4
        have oM4 := newO eH5
        have oM3 := SH5 _ _ oM3
        try walk_at "go"
        intro M5 hM5
        generalize eH6 : upd _ M5 _ = H6
        have SH6 := newS eH6 hM5
        have oM5 := newO eH6
        try walk_at "go"
        intro M6 hM6
        generalize eH7 : upd _ M6 _ = H7
        have SH7 := newS eH7 hM6
        have oM6 := newO eH7
        have oM5 := SH7 _ _ oM5
        try walk_at "go"
        intro M7 hM7
        generalize eH8 : upd _ M7 _ = H8
        have SH8 := newS eH8 hM7
        have oM7 := newO eH8
        try walk_at "go"
        intro M8 hM8
        generalize eH9 : upd _ M8 _ = H9
        have SH9 := newS eH9 hM8
        have oM8 := newO eH9
        have oM6 := SH9 _ _ (SH8 _ _ oM6)
        try walk_at "go"
        intro M9 hM9
        generalize eH10 : upd _ M9 _ = H10
        have SH10 := newS eH10 hM9
        have oM9 := newO eH10
        have oM5 := SH10 _ _ (SH9 _ _ (SH8 _ _ oM5))
        try walk_at "go"
        refine ⟨(rfl : ([V.bl false, .bl false, .bl false, .bl true, .bl false, .bl false, .bl false, .bl false] : List V)[3]? = some (V.bl true)), rfl, fun m z' hm hz => ?_, ?_⟩
        · rcases (show m = 0 ∨ m = 1 ∨ m = 2 by omega) with rfl | rfl | rfl <;> (cases hz; rfl)
        try walk_at "go"
        exact q _ (S1.trans (SH2.trans (SH3.trans (SH4.trans (SH5.trans (SH6.trans (SH7.trans (SH8.trans (SH9.trans SH10)))))))))
/-! SPLIT -/
omit B in
theorem D8.at_.same {K : PySem.W.Frag} {S : Addr → Prop} {H H' : Hp} {L : Addr} {x : D8} (h : x.at_ K S H L) (e : Same H H') : x.at_ K S H' L := ⟨e _ _ h.o, h.k.same e, h.one.same e, h.other.same e, h.goal.same e, h.last.same e, h.pairs.same e, h.sides.same e, h.sets.same e, h.n⟩
local macro_rules | `(tactic| walk_at "own") => `(tactic| first | exact Toy.Th.int _ | exact L2.ClsV.own _ | (apply Toy.th_at; (with_reducible assumption); walk_at "sm"))
def spLaw (K : PySem.W.Frag) : Sp := fun vs H Q _ => ∃ (a : Addr) (ns : List Int), vs = [.ref a] ∧ SqL K H a (ns.map V.int) ∧ ns.length ≤ 63 ∧ ∀ H', Q (.bl true) H'
theorem k_law {f : Addr} {fd : FuncData} (F : Fun K "law" "law" s_law f fd) (D__law_purse : Dn P w K mg base 1 "_law_purse" ["_law_script", "_law_k"] (spPurse K)) (D__law_drawn : Dn P w K mg base 6 "_law_drawn" ["_law_purse_here"] (spDrawn K)) (D__law_said : Dn P w K mg base 8 "_law_said" ["_law_way_of", "_law_drawn_here"] (spSaid K)) (D__law_due : Dn P w K mg base 4 "_law_due" ["_law_way_of", "_law_drawn_here"] (spDue K)) (D_way : Dx P w K mg base 4 "way" ["k", "hand", "side"] (spWayT K (cAt mg "NoNet") (cAt mg "NoHand") (cAt mg "NoSide"))) (D_led : Dx P w K mg base 6 "led" ["k", "settings"] (spLedN K (cAt mg "NoNet") (cAt mg "NoSettings"))) : FnG P w K mg base CX0 9 f fd ["_law_script"] (spLaw K) := by
  refine okG0 F sc_law (fun vs H Q E h => ?_) (fun cdv A outer s H vs Q E hr h => ⟨_, (pss_cons (ps_for PassesOwn.never rfl (pi_range1 (by rfl) B.range_ (pa_cons (pe_callB (call_max2 rfl) (by rfl) B.max_ (by decide +kernel) (pa_cons pe_int (pa_cons (pe_callB (call_min2 rfl) (by rfl) B.min_ (by decide +kernel) (pa_cons pe_int (pa_cons (pe_callB (lenK (K := K)) (by rfl) B.len_ (by decide +kernel) (pa_cons (pv 0) pa_nil)) pa_nil))) pa_nil))) pa_nil)) (pg_name (i := 1) sc_law.nd rfl (Or.inl rfl))
      (pss_cons (ps_set (i := 2) sc_law.nd rfl (Or.inl rfl) (pe_cD D__law_purse (hr.less (by decide)) rfl (pa_cons (pv 0) (pa_cons (pv 1) pa_nil))))
      (pss_cons (ps_for PassesOwn.never rfl (pi_range1 (by rfl) B.range_ (pa_cons pe_int pa_nil)) (pg_name (i := 3) sc_law.nd rfl (Or.inl rfl))
        (pss_cons (ps_set (i := 4) sc_law.nd rfl (Or.inl rfl) (pe_cD D__law_drawn (hr.less (by decide)) rfl (pa_cons (pv 2) pa_nil)))
        (pss_one (ps_for PassesOwn.never rfl (pi_range1 (by rfl) B.range_ (pa_cons pe_int pa_nil)) (pg_name (i := 5) sc_law.nd rfl (Or.inl rfl))
         (pss_one (ps_if (pt_cmpR op_ne (pe_cD D__law_said (hr.less (by decide)) rfl (pa_cons (pv 5) (pa_cons (pv 4) pa_nil))) (pe_cD D__law_due (hr.less (by decide)) rfl (pa_cons (pv 5) (pa_cons (pv 4) pa_nil))) (nomark _))
          (pss_one (ps_ret pe_bl))
          pss_nil))))))
      (pss_one (ps_if (PW.pt (pw_or (pt_cmpR (kk (K := K) (F := rNeD) (P := OpR _ _) (op_neD hr.units)) (pe_cXn D_way (hr.less (by decide)) rfl (pa_cons pe_int (pa_cons pe_int (pa_cons pe_int pa_nil)))) (pe_tup (pa_cons pe_int (pa_cons pe_int (pa_cons pe_int pa_nil)))) (nomark _)) (pw_or1 (pt_cmpR (kk (K := K) (F := rNeD) (P := OpR _ _) (op_neD hr.units)) (pe_cXn D_led (hr.less (by decide)) rfl (pa_cons pe_int (pa_cons (pe_tup (pa_cons (pe_tup (pa_cons pe_int pa_nil)) pa_nil)) pa_nil))) (pe_tup (pa_cons pe_int (pa_cons pe_int pa_nil))) (nomark _)))))
       (pss_one (ps_ret pe_bl))
       pss_nil)))))
    (pss_one (ps_ret pe_bl))), ?_⟩)
  · obtain ⟨a, ns, rfl, _⟩ := h; rfl
  · obtain ⟨a, ns, rfl, hS, hl, q⟩ := h
    try walk_at "go"
    have hN : (if (if (((ns.map V.int).length : Nat) : Int) < 10 then (((ns.map V.int).length : Nat) : Int) else 10) > 1 then (if (((ns.map V.int).length : Nat) : Int) < 10 then (((ns.map V.int).length : Nat) : Int) else 10) else 1).toNat ≤ 10 := by split <;> split <;> omega
    generalize (if (if (((ns.map V.int).length : Nat) : Int) < 10 then (((ns.map V.int).length : Nat) : Int) else 10) > 1 then (if (((ns.map V.int).length : Nat) : Int) < 10 then (((ns.map V.int).length : Nat) : Int) else 10) else 1).toNat = n at hN ⊢
    refine for_range (lo := 0) (n := n) (fun i σ H2 => Kept (∃ v1 v2 v3 v4 v5 : Option V, σ = [some (.ref a), v1, v2, v3, v4, v5] ∧ Same H H2)) ⟨_, _, _, _, _, rfl, Same.refl H⟩ ?_ ?_
    · rintro i σ H2 hi ⟨v1, v2, v3, v4, v5, rfl, S2⟩
      rw [Int.zero_add]
      try walk_at "go"
      intro p H3 np S3 p3
      try walk_at "go"
      refine for_range (lo := 0) (n := 3) (fun j σ H' => Kept (∃ w3 w4 w5 : Option V, σ = [some (.ref a), some (.int (i : Nat)), some (.ref p), w3, w4, w5] ∧ But p H3 H' ∧ PurseAt H' p (60 + 14000 * j))) ⟨⟨_, _, _, rfl, But.refl, p3⟩⟩ ?_ ?_
      · rintro j σ H4 hj ⟨w3, w4, w5, rfl, b4, p4⟩
        have cp : 60 + 14000 * j ≤ 60000 := by omega
        try walk_at "go"
        intro L x H5 b5 p5 hx
        try walk_at "go"
        refine for_range (lo := 0) (n := 8) (fun w σ H' => Kept (∃ w5 : Option V, σ = [some (.ref a), some (.int (i : Nat)), some (.ref p), some (.int (0 + (j : Nat))), some (.ref L), w5] ∧ Same H5 H')) ⟨⟨_, rfl, Same.refl _⟩⟩ ?_ ?_
        · rintro w σ H6 hw ⟨w5, rfl, S6⟩
          rw [Int.zero_add]
          have hx6 := hx.same S6
          have sp : H4 p ≠ none := p4.fre
          try walk_at "go"
          intro H7 S7
          have hx7 := hx6.same S7
          try walk_at "go"
          intro H8 S8
          have S58 := S6.trans (S7.trans S8)
          cases e : dueS w x with
          | none =>
            try walk_at "go"
            exact ⟨⟨_, rfl, S58⟩⟩
          | some s =>
            try walk_at "go"
            exact ifF (dec_ne rfl) ⟨⟨_, rfl, S58⟩⟩
        · rintro σ H6 ⟨w5, rfl, S6⟩
          try walk_at "go"
          exact ⟨⟨_, _, _, rfl, b4.trans (b5.trans (same_but S6)), PurseAt.same B S6 (p5.up (by omega))⟩⟩
      · rintro σ H4 ⟨w3, w4, w5, rfl, b4, p4⟩
        have th1 : Th K p H4 (.int 1) (.int 1) := .int _
        have th2 : Th K p H4 (.int 2) (.int 2) := .int _
        try walk_at "go"
        refine ⟨fun k h g e1 e2 e3 _ _ _ T H5 S5 oT => ?_, fun h => absurd h (by decide), fun k e1 _ h => ?_, fun k e1 _ _ h => ?_⟩
        · obtain rfl : k = 2 := by have := PyData.int.inj e1; omega
          obtain rfl : h = 1 := by have := PyData.int.inj e2; omega
          obtain rfl : g = 2 := by have := PyData.int.inj e3; omega
          rw [show (List.range (2 + 1)).map (low 2 1 2) = [1, 3, 2] by decide] at oT
          try walk_at "go"
          intro U hU
          generalize eH6 : upd _ U _ = H6
          have SH6 := newS eH6 hU
          have oU := newO eH6
          have d1 : Dp K H6 (.ref T) _ := tupI_dp (SqT.of (SH6 _ _ oT))
          have d2 : Dp K H6 (.ref U) _ := tupI_dp (ns := [1, 3, 2]) (SqT.of oU)
          try walk_at "go"
          intro A1 hA1
          generalize eH7 : upd _ A1 _ = H7
          have SH7 := newS eH7 hA1
          have oA1 := newO eH7
          try walk_at "go"
          intro A2 hA2
          generalize eH8 : upd _ A2 _ = H8
          have SH8 := newS eH8 hA2
          have oA2 := newO eH8
          have oA1 := SH8 _ _ oA1
          have thA : Th K p H8 (.ref A2) (.tuple [.tuple [.int 1]]) := Th.tup (tr := [(.ref A1, .tuple [.int 1])]) oA2 fun t ht => by
            cases List.mem_singleton.mp ht
            exact Th.tup (tr := [(.int 1, .int 1)]) oA1 fun t ht => by cases List.mem_singleton.mp ht; exact .int _
          have th1 : Th K p H8 (.int 1) (.int 1) := .int _
          try walk_at "go"
          refine ⟨fun k e4 _ _ T' s eT hs hb V' H9 S9 oV => ?_, fun h => absurd h (by decide), fun k e4 _ h => ?_⟩
          · obtain rfl : k = 1 := by have := PyData.int.inj e4; omega
            cases eT
            have s00 : s 0 0 = 1 := by
              obtain ⟨as, h1, h2, h3⟩ := hs
              rw [oA2] at h1
              have h1 : [V.ref A1] = as.map V.ref := HO.tup.inj (Option.some.inj h1)
              match as, h2, h1 with
              | [b], _, h1 =>
                have hb1 : A1 = b := V.ref.inj (List.cons.inj h1).1
                subst hb1
                have h4 := h3 0 A1 rfl
                rw [oA1] at h4
                have h4 : [V.int 1] = [V.int (s 0 0)] := HO.tup.inj (Option.some.inj h4)
                exact (V.int.inj (List.cons.inj h4).1).symm
            have es : sdl 1 (fun h => la 1 s h 1) = [1, 0] := by
              have e0 : la 1 s 0 1 = (stp 1 ((0 : Nat) : Int) 1 (s 0 0)).toNat := by
                show (stp 1 ((0 : Nat) : Int) (0 + 1) (s 0 (nwo 1 0 (0 + 1)).toNat)).toNat = _
                rw [show (nwo 1 0 (0 + 1)).toNat = 0 by decide +kernel]
              have e1 : la 1 s 1 1 = (stp 1 ((1 : Nat) : Int) 1 (s 0 0)).toNat := by
                show (stp 1 ((1 : Nat) : Int) (0 + 1) (s 0 (nwo 1 1 (0 + 1)).toNat)).toNat = _
                rw [show (nwo 1 1 (0 + 1)).toNat = 0 by decide +kernel]
              show [la 1 s 0 1, la 1 s 1 1] = [1, 0]
              rw [e0, e1, s00]
              decide
            rw [es] at oV
            try walk_at "go"
            intro W hW
            generalize eH10 : upd _ W _ = H10
            have SH10 := newS eH10 hW
            have oW := newO eH10
            have d1 : Dp K H10 (.ref V') _ := tupI_dp (ns := [1, 0]) (SqT.of (SH10 _ _ oV))
            have d2 : Dp K H10 (.ref W) _ := tupI_dp (ns := [1, 0]) (SqT.of oW)
            try walk_at "go"
            exact ⟨⟨_, _, _, _, _, rfl, S2.trans (but_same np S3 (b4.trans (same_but (S5.trans (SH6.trans (SH7.trans (SH8.trans (S9.trans SH10))))))))⟩⟩
          · obtain rfl : k = 1 := by have := PyData.int.inj e4; omega
            exact absurd h (by decide)
        · obtain rfl : k = 2 := by have := PyData.int.inj e1; omega
          exact absurd h (by decide)
        · obtain rfl : k = 2 := by have := PyData.int.inj e1; omega
          exact absurd h (by decide)
    · rintro σ H2 ⟨v1, v2, v3, v4, v5, rfl, S2⟩
      try walk_at "go"
      exact q _
end
structure AllD (K : PySem.W.Frag) (mg : Str → Option Value) : Prop where
  d_is_whole : Df K mg "is_whole" s_is_whole ["thing"]
  d_is_within : Df K mg "is_within" s_is_within ["thing", "least", "most"]
  d_want_net : Dfd K mg "want_net" s_want_net ["k", "deepest"] [.int 4]
  d_is_line : Df K mg "is_line" s_is_line ["k", "thing"]
  d_want_hand : Df K mg "want_hand" s_want_hand ["k", "thing"]
  d_want_side : Df K mg "want_side" s_want_side ["k", "thing"]
  d_line_on_way : Df K mg "line_on_way" s_line_on_way ["k", "hand", "goal", "level"]
  d_figure_in : Df K mg "figure_in" s_figure_in ["k", "line", "stage"]
  d_number_without : Df K mg "number_without" s_number_without ["k", "line", "stage"]
  d_way : Df K mg "way" s_way ["k", "hand", "side"]
  d_switches : Df K mg "switches" s_switches ["k", "hand", "side"]
  d_meeting : Df K mg "meeting" s_meeting ["k", "one", "other"]
  d_parting : Df K mg "parting" s_parting ["k", "one", "other"]
  d_want_pairs : Df K mg "want_pairs" s_want_pairs ["k", "pairs"]
  d_shared_line : Df K mg "shared_line" s_shared_line ["k", "pairs"]
  d_first_shared : Df K mg "first_shared" s_first_shared ["k", "pairs"]
  d_is_setting_row : Df K mg "is_setting_row" s_is_setting_row ["k", "thing"]
  d_is_settings : Df K mg "is_settings" s_is_settings ["k", "thing"]
  d_want_settings : Df K mg "want_settings" s_want_settings ["k", "thing"]
  d_plain_rows : Df K mg "plain_rows" s_plain_rows ["k"]
  d_as_settings : Df K mg "as_settings" s_as_settings ["rows"]
  d_straight : Df K mg "straight" s_straight ["k"]
  d_led_from : Df K mg "led_from" s_led_from ["k", "settings", "hand"]
  d_led : Df K mg "led" s_led ["k", "settings"]
  d_want_sides : Df K mg "want_sides" s_want_sides ["k", "sides"]
  d_settings_by : Df K mg "settings_by" s_settings_by ["k", "sides"]
  d_settings_for : Df K mg "settings_for" s_settings_for ["k", "sides"]
  d__law_rich : Df K mg "_law_rich" s__law_rich ["_law_cell", "_law_turn"]
  d__law_purse : Df K mg "_law_purse" s__law_purse ["_law_script", "_law_k"]
  d__law_take : Df K mg "_law_take" s__law_take ["_law_purse_here", "_law_many"]
  d__law_number : Df K mg "_law_number" s__law_number ["_law_thing"]
  d__law_within : Df K mg "_law_within" s__law_within ["_law_k", "_law_thing"]
  d__law_odd : Df K mg "_law_odd" s__law_odd ["_law_purse_here", "_law_many"]
  d__law_or_odd : Df K mg "_law_or_odd" s__law_or_odd ["_law_purse_here", "_law_good", "_law_many"]
  d__law_settings : Df K mg "_law_settings" s__law_settings ["_law_purse_here", "_law_k"]
  d__law_put : Df K mg "_law_put" s__law_put ["_law_row", "_law_at", "_law_thing"]
  d__law_bad_row : Df K mg "_law_bad_row" s__law_bad_row ["_law_purse_here", "_law_row", "_law_thing"]
  d__law_pairs : Df K mg "_law_pairs" s__law_pairs ["_law_purse_here", "_law_k"]
  d__law_drawn : Df K mg "_law_drawn" s__law_drawn ["_law_purse_here"]
  d__law_are_pairs : Df K mg "_law_are_pairs" s__law_are_pairs ["_law_thing"]
  d__law_pairs_due : Df K mg "_law_pairs_due" s__law_pairs_due ["_law_k", "_law_pairs_here"]
  d__law_are_sides : Df K mg "_law_are_sides" s__law_are_sides ["_law_k", "_law_sides"]
  d__law_are_settings : Df K mg "_law_are_settings" s__law_are_settings ["_law_k", "_law_thing"]
  d__law_due : Df K mg "_law_due" s__law_due ["_law_way_of", "_law_drawn_here"]
  d__law_asked : Df K mg "_law_asked" s__law_asked ["_law_way_of", "_law_drawn_here"]
  d__law_said : Df K mg "_law_said" s__law_said ["_law_way_of", "_law_drawn_here"]
  d_law : Df K mg "law" s_law ["_law_script"]
  e_want_net : Dfd K mg "want_net" s_want_net ["k", "deepest"] []
  bl : Bl K mg
theorem all_mk {w : World} {K : PySem.W.Frag} {h : Heap} {mg : Str → Option Value} (X : K.In h) (G : h.Ns mainGlobals mg)
    {f1 f2 f3 f4 f5 f6 f7 f8 f9 f10 f11 f12 f13 f14 f15 f16 f17 f18 f19 f20 f21 f22 f23 f24 f25 f26 f27 f28 f29 f30 f31 f32 f33 f34 f35 f36 f37 f38 f39 f40 f41 f42 f43 f44 f45 f46 f47 : Addr} {od1 an1 od2 an2 od3 an3 od4 an4 od5 an5 od6 an6 od7 an7 od8 an8 od9 an9 od10 an10 od11 an11 od12 an12 od13 an13 od14 an14 od15 an15 od16 an16 od17 an17 od18 an18 od19 an19 od20 an20 od21 an21 od22 an22 od23 an23 od24 an24 od25 an25 od26 an26 od27 an27 od28 an28 od29 an29 od30 an30 od31 an31 od32 an32 od33 an33 od34 an34 od35 an35 od36 an36 od37 an37 od38 an38 od39 an39 od40 an40 od41 an41 od42 an42 od43 an43 od44 an44 od45 an45 od46 an46 od47 an47 : Option Addr} {sl1 sl2 sl3 sl4 sl5 sl6 sl7 sl8 sl9 sl10 sl11 sl12 sl13 sl14 sl15 sl16 sl17 sl18 sl19 sl20 sl21 sl22 sl23 sl24 sl25 sl26 sl27 sl28 sl29 sl30 sl31 sl32 sl33 sl34 sl35 sl36 sl37 sl38 sl39 sl40 sl41 sl42 sl43 sl44 sl45 sl46 sl47 : Array (Option Value)} {oc1 kV1 dc1 pm1 cd1 ct1 oc2 kV2 dc2 pm2 cd2 ct2 oc3 kV3 dc3 pm3 cd3 ct3 oc4 kV4 dc4 pm4 cd4 ct4 oc5 kV5 dc5 pm5 cd5 ct5 oc6 kV6 dc6 pm6 cd6 ct6 oc7 kV7 dc7 pm7 cd7 ct7 oc8 kV8 dc8 pm8 cd8 ct8 oc9 kV9 dc9 pm9 cd9 ct9 oc10 kV10 dc10 pm10 cd10 ct10 oc11 kV11 dc11 pm11 cd11 ct11 oc12 kV12 dc12 pm12 cd12 ct12 oc13 kV13 dc13 pm13 cd13 ct13 oc14 kV14 dc14 pm14 cd14 ct14 oc15 kV15 dc15 pm15 cd15 ct15 oc16 kV16 dc16 pm16 cd16 ct16 oc17 kV17 dc17 pm17 cd17 ct17 oc18 kV18 dc18 pm18 cd18 ct18 oc19 kV19 dc19 pm19 cd19 ct19 oc20 kV20 dc20 pm20 cd20 ct20 oc21 kV21 dc21 pm21 cd21 ct21 oc22 kV22 dc22 pm22 cd22 ct22 oc23 kV23 dc23 pm23 cd23 ct23 oc24 kV24 dc24 pm24 cd24 ct24 oc25 kV25 dc25 pm25 cd25 ct25 oc26 kV26 dc26 pm26 cd26 ct26 oc27 kV27 dc27 pm27 cd27 ct27 oc28 kV28 dc28 pm28 cd28 ct28 oc29 kV29 dc29 pm29 cd29 ct29 oc30 kV30 dc30 pm30 cd30 ct30 oc31 kV31 dc31 pm31 cd31 ct31 oc32 kV32 dc32 pm32 cd32 ct32 oc33 kV33 dc33 pm33 cd33 ct33 oc34 kV34 dc34 pm34 cd34 ct34 oc35 kV35 dc35 pm35 cd35 ct35 oc36 kV36 dc36 pm36 cd36 ct36 oc37 kV37 dc37 pm37 cd37 ct37 oc38 kV38 dc38 pm38 cd38 ct38 oc39 kV39 dc39 pm39 cd39 ct39 oc40 kV40 dc40 pm40 cd40 ct40 oc41 kV41 dc41 pm41 cd41 ct41 oc42 kV42 dc42 pm42 cd42 ct42 oc43 kV43 dc43 pm43 cd43 ct43 oc44 kV44 dc44 pm44 cd44 ct44 oc45 kV45 dc45 pm45 cd45 ct45 oc46 kV46 dc46 pm46 cd46 ct46 oc47 kV47 dc47 pm47 cd47 ct47 : Value}
    {da3 : Addr}
    {E0 : Addr} (aE0 : PySem.W.nsIn K mainGlobals "AskError" = some (some (.ref E0))) (xE0 : PySem.W.excIn K E0 [.type "ValueError", .type "Exception", .type "BaseException", .type "object"] "ValueError.__new__" = true) (kE0 : PySem.W.keepIn K (.ref E0) = true) (bE0 : PySem.W.subIn K (.ref E0) (.type "BaseException") = some true) (tE0 : PySem.W.typeIn K (.ref E0) = some (.type "type")) (iE0 : PySem.W.isClsIn K E0 = true)
    {E1 : Addr} (aE1 : PySem.W.nsIn K mainGlobals "NoAsk" = some (some (.ref E1))) (xE1 : PySem.W.excIn K E1 [.type "ValueError", .type "Exception", .type "BaseException", .type "object"] "ValueError.__new__" = true) (kE1 : PySem.W.keepIn K (.ref E1) = true) (bE1 : PySem.W.subIn K (.ref E1) (.type "BaseException") = some true) (tE1 : PySem.W.typeIn K (.ref E1) = some (.type "type")) (iE1 : PySem.W.isClsIn K E1 = true)
    {E2 : Addr} (aE2 : PySem.W.nsIn K mainGlobals "NoBoard" = some (some (.ref E2))) (xE2 : PySem.W.excIn K E2 [.type "ValueError", .type "Exception", .type "BaseException", .type "object"] "ValueError.__new__" = true) (kE2 : PySem.W.keepIn K (.ref E2) = true) (bE2 : PySem.W.subIn K (.ref E2) (.type "BaseException") = some true) (tE2 : PySem.W.typeIn K (.ref E2) = some (.type "type")) (iE2 : PySem.W.isClsIn K E2 = true)
    {E3 : Addr} (aE3 : PySem.W.nsIn K mainGlobals "NoHand" = some (some (.ref E3))) (xE3 : PySem.W.excIn K E3 [.type "ValueError", .type "Exception", .type "BaseException", .type "object"] "ValueError.__new__" = true) (kE3 : PySem.W.keepIn K (.ref E3) = true) (bE3 : PySem.W.subIn K (.ref E3) (.type "BaseException") = some true) (tE3 : PySem.W.typeIn K (.ref E3) = some (.type "type")) (iE3 : PySem.W.isClsIn K E3 = true)
    {E4 : Addr} (aE4 : PySem.W.nsIn K mainGlobals "NoNet" = some (some (.ref E4))) (xE4 : PySem.W.excIn K E4 [.type "ValueError", .type "Exception", .type "BaseException", .type "object"] "ValueError.__new__" = true) (kE4 : PySem.W.keepIn K (.ref E4) = true) (bE4 : PySem.W.subIn K (.ref E4) (.type "BaseException") = some true) (tE4 : PySem.W.typeIn K (.ref E4) = some (.type "type")) (iE4 : PySem.W.isClsIn K E4 = true)
    {E5 : Addr} (aE5 : PySem.W.nsIn K mainGlobals "NoNumber" = some (some (.ref E5))) (xE5 : PySem.W.excIn K E5 [.type "ValueError", .type "Exception", .type "BaseException", .type "object"] "ValueError.__new__" = true) (kE5 : PySem.W.keepIn K (.ref E5) = true) (bE5 : PySem.W.subIn K (.ref E5) (.type "BaseException") = some true) (tE5 : PySem.W.typeIn K (.ref E5) = some (.type "type")) (iE5 : PySem.W.isClsIn K E5 = true)
    {E6 : Addr} (aE6 : PySem.W.nsIn K mainGlobals "NoSettings" = some (some (.ref E6))) (xE6 : PySem.W.excIn K E6 [.type "ValueError", .type "Exception", .type "BaseException", .type "object"] "ValueError.__new__" = true) (kE6 : PySem.W.keepIn K (.ref E6) = true) (bE6 : PySem.W.subIn K (.ref E6) (.type "BaseException") = some true) (tE6 : PySem.W.typeIn K (.ref E6) = some (.type "type")) (iE6 : PySem.W.isClsIn K E6 = true)
    {E7 : Addr} (aE7 : PySem.W.nsIn K mainGlobals "NoSide" = some (some (.ref E7))) (xE7 : PySem.W.excIn K E7 [.type "ValueError", .type "Exception", .type "BaseException", .type "object"] "ValueError.__new__" = true) (kE7 : PySem.W.keepIn K (.ref E7) = true) (bE7 : PySem.W.subIn K (.ref E7) (.type "BaseException") = some true) (tE7 : PySem.W.typeIn K (.ref E7) = some (.type "type")) (iE7 : PySem.W.isClsIn K E7 = true)
    {E8 : Addr} (aE8 : PySem.W.nsIn K mainGlobals "TooMany" = some (some (.ref E8))) (xE8 : PySem.W.excIn K E8 [.type "ValueError", .type "Exception", .type "BaseException", .type "object"] "ValueError.__new__" = true) (kE8 : PySem.W.keepIn K (.ref E8) = true) (bE8 : PySem.W.subIn K (.ref E8) (.type "BaseException") = some true) (tE8 : PySem.W.typeIn K (.ref E8) = some (.type "type")) (iE8 : PySem.W.isClsIn K E8 = true)
    (sE4_0 : PySem.W.subIn K (.ref E4) (.ref E0) = some true)
    (sE4_1 : PySem.W.subIn K (.ref E4) (.ref E1) = some false)
    (sE4_2 : PySem.W.subIn K (.ref E4) (.ref E2) = some false)
    (sE4_3 : PySem.W.subIn K (.ref E4) (.ref E3) = some false)
    (sE4_4 : PySem.W.subIn K (.ref E4) (.ref E4) = some true)
    (sE4_5 : PySem.W.subIn K (.ref E4) (.ref E5) = some false)
    (sE4_6 : PySem.W.subIn K (.ref E4) (.ref E6) = some false)
    (sE4_7 : PySem.W.subIn K (.ref E4) (.ref E7) = some false)
    (sE4_8 : PySem.W.subIn K (.ref E4) (.ref E8) = some false)
    (sE3_0 : PySem.W.subIn K (.ref E3) (.ref E0) = some true)
    (sE3_1 : PySem.W.subIn K (.ref E3) (.ref E1) = some false)
    (sE3_2 : PySem.W.subIn K (.ref E3) (.ref E2) = some false)
    (sE3_3 : PySem.W.subIn K (.ref E3) (.ref E3) = some true)
    (sE3_4 : PySem.W.subIn K (.ref E3) (.ref E4) = some false)
    (sE3_5 : PySem.W.subIn K (.ref E3) (.ref E5) = some false)
    (sE3_6 : PySem.W.subIn K (.ref E3) (.ref E6) = some false)
    (sE3_7 : PySem.W.subIn K (.ref E3) (.ref E7) = some false)
    (sE3_8 : PySem.W.subIn K (.ref E3) (.ref E8) = some false)
    (sE7_0 : PySem.W.subIn K (.ref E7) (.ref E0) = some true)
    (sE7_1 : PySem.W.subIn K (.ref E7) (.ref E1) = some false)
    (sE7_2 : PySem.W.subIn K (.ref E7) (.ref E2) = some false)
    (sE7_3 : PySem.W.subIn K (.ref E7) (.ref E3) = some false)
    (sE7_4 : PySem.W.subIn K (.ref E7) (.ref E4) = some false)
    (sE7_5 : PySem.W.subIn K (.ref E7) (.ref E5) = some false)
    (sE7_6 : PySem.W.subIn K (.ref E7) (.ref E6) = some false)
    (sE7_7 : PySem.W.subIn K (.ref E7) (.ref E7) = some true)
    (sE7_8 : PySem.W.subIn K (.ref E7) (.ref E8) = some false)
    (sE6_0 : PySem.W.subIn K (.ref E6) (.ref E0) = some true)
    (sE6_1 : PySem.W.subIn K (.ref E6) (.ref E1) = some false)
    (sE6_2 : PySem.W.subIn K (.ref E6) (.ref E2) = some false)
    (sE6_3 : PySem.W.subIn K (.ref E6) (.ref E3) = some false)
    (sE6_4 : PySem.W.subIn K (.ref E6) (.ref E4) = some false)
    (sE6_5 : PySem.W.subIn K (.ref E6) (.ref E5) = some false)
    (sE6_6 : PySem.W.subIn K (.ref E6) (.ref E6) = some true)
    (sE6_7 : PySem.W.subIn K (.ref E6) (.ref E7) = some false)
    (sE6_8 : PySem.W.subIn K (.ref E6) (.ref E8) = some false)
    (spG : PySem.W.specialIn K (.builtin "object.__class__") "__get__" = some (some (.builtin "getset_descriptor.__get__"))) (tkG : PySem.W.takesIn K (.builtin "object.__class__") = some true)
    (ga4 : PySem.W.findIn K (.ref E4) "__getattribute__" = some (some (.builtin "BaseException.__getattribute__"))) (gt4 : PySem.W.findIn K (.ref E4) "__getattr__" = some none) (hi4 : PySem.W.hasDictIn K E4 = true) (fc4 : PySem.W.findIn K (.ref E4) "__class__" = some (some (.builtin "object.__class__"))) (mo4 : PySem.W.mroIn K E4 (.type "object") = some true) (vE4 : PySem.W.subIn K (.ref E4) (.type "ValueError") = some true)
    (ga3 : PySem.W.findIn K (.ref E3) "__getattribute__" = some (some (.builtin "BaseException.__getattribute__"))) (gt3 : PySem.W.findIn K (.ref E3) "__getattr__" = some none) (hi3 : PySem.W.hasDictIn K E3 = true) (fc3 : PySem.W.findIn K (.ref E3) "__class__" = some (some (.builtin "object.__class__"))) (mo3 : PySem.W.mroIn K E3 (.type "object") = some true) (vE3 : PySem.W.subIn K (.ref E3) (.type "ValueError") = some true)
    (ga7 : PySem.W.findIn K (.ref E7) "__getattribute__" = some (some (.builtin "BaseException.__getattribute__"))) (gt7 : PySem.W.findIn K (.ref E7) "__getattr__" = some none) (hi7 : PySem.W.hasDictIn K E7 = true) (fc7 : PySem.W.findIn K (.ref E7) "__class__" = some (some (.builtin "object.__class__"))) (mo7 : PySem.W.mroIn K E7 (.type "object") = some true) (vE7 : PySem.W.subIn K (.ref E7) (.type "ValueError") = some true)
    (ga6 : PySem.W.findIn K (.ref E6) "__getattribute__" = some (some (.builtin "BaseException.__getattribute__"))) (gt6 : PySem.W.findIn K (.ref E6) "__getattr__" = some none) (hi6 : PySem.W.hasDictIn K E6 = true) (fc6 : PySem.W.findIn K (.ref E6) "__class__" = some (some (.builtin "object.__class__"))) (mo6 : PySem.W.mroIn K E6 (.type "object") = some true) (vE6 : PySem.W.subIn K (.ref E6) (.type "ValueError") = some true)
    (a1 : PySem.W.nsIn K mainGlobals "is_whole" = some (some (.ref f1))) (l1 : K.lookup f1 = some ⟨oc1, od1, .func (PySem.W.fnOf "is_whole" "is_whole" (defArgs s_is_whole) (defBody s_is_whole) (defScope s_is_whole) .none kV1 dc1 pm1 an1 cd1 ct1), sl1⟩) (c1 : PySem.W.codeIn K cd1 "is_whole" = true) (k1 : PySem.W.keepIn K (.ref f1) = true)
    (a2 : PySem.W.nsIn K mainGlobals "is_within" = some (some (.ref f2))) (l2 : K.lookup f2 = some ⟨oc2, od2, .func (PySem.W.fnOf "is_within" "is_within" (defArgs s_is_within) (defBody s_is_within) (defScope s_is_within) .none kV2 dc2 pm2 an2 cd2 ct2), sl2⟩) (c2 : PySem.W.codeIn K cd2 "is_within" = true) (k2 : PySem.W.keepIn K (.ref f2) = true)
    (a3 : PySem.W.nsIn K mainGlobals "want_net" = some (some (.ref f3))) (l3 : K.lookup f3 = some ⟨oc3, od3, .func (PySem.W.fnOf "want_net" "want_net" (defArgs s_want_net) (defBody s_want_net) (defScope s_want_net) (.ref da3) kV3 dc3 pm3 an3 cd3 ct3), sl3⟩) (c3 : PySem.W.codeIn K cd3 "want_net" = true) (k3 : PySem.W.keepIn K (.ref f3) = true)
    {dt3_0 : Tok} {dd3 : Option Addr} {dn3 : Nat} {dz3 : Array (Option Value)} (dl3 : K.lookup da3 = some ⟨.type "tuple", dd3, .seq #[.int 4 dt3_0] dn3, dz3⟩)
    (a4 : PySem.W.nsIn K mainGlobals "is_line" = some (some (.ref f4))) (l4 : K.lookup f4 = some ⟨oc4, od4, .func (PySem.W.fnOf "is_line" "is_line" (defArgs s_is_line) (defBody s_is_line) (defScope s_is_line) .none kV4 dc4 pm4 an4 cd4 ct4), sl4⟩) (c4 : PySem.W.codeIn K cd4 "is_line" = true) (k4 : PySem.W.keepIn K (.ref f4) = true)
    (a5 : PySem.W.nsIn K mainGlobals "want_hand" = some (some (.ref f5))) (l5 : K.lookup f5 = some ⟨oc5, od5, .func (PySem.W.fnOf "want_hand" "want_hand" (defArgs s_want_hand) (defBody s_want_hand) (defScope s_want_hand) .none kV5 dc5 pm5 an5 cd5 ct5), sl5⟩) (c5 : PySem.W.codeIn K cd5 "want_hand" = true) (k5 : PySem.W.keepIn K (.ref f5) = true)
    (a6 : PySem.W.nsIn K mainGlobals "want_side" = some (some (.ref f6))) (l6 : K.lookup f6 = some ⟨oc6, od6, .func (PySem.W.fnOf "want_side" "want_side" (defArgs s_want_side) (defBody s_want_side) (defScope s_want_side) .none kV6 dc6 pm6 an6 cd6 ct6), sl6⟩) (c6 : PySem.W.codeIn K cd6 "want_side" = true) (k6 : PySem.W.keepIn K (.ref f6) = true)
    (a7 : PySem.W.nsIn K mainGlobals "line_on_way" = some (some (.ref f7))) (l7 : K.lookup f7 = some ⟨oc7, od7, .func (PySem.W.fnOf "line_on_way" "line_on_way" (defArgs s_line_on_way) (defBody s_line_on_way) (defScope s_line_on_way) .none kV7 dc7 pm7 an7 cd7 ct7), sl7⟩) (c7 : PySem.W.codeIn K cd7 "line_on_way" = true) (k7 : PySem.W.keepIn K (.ref f7) = true)
    (a8 : PySem.W.nsIn K mainGlobals "figure_in" = some (some (.ref f8))) (l8 : K.lookup f8 = some ⟨oc8, od8, .func (PySem.W.fnOf "figure_in" "figure_in" (defArgs s_figure_in) (defBody s_figure_in) (defScope s_figure_in) .none kV8 dc8 pm8 an8 cd8 ct8), sl8⟩) (c8 : PySem.W.codeIn K cd8 "figure_in" = true) (k8 : PySem.W.keepIn K (.ref f8) = true)
    (a9 : PySem.W.nsIn K mainGlobals "number_without" = some (some (.ref f9))) (l9 : K.lookup f9 = some ⟨oc9, od9, .func (PySem.W.fnOf "number_without" "number_without" (defArgs s_number_without) (defBody s_number_without) (defScope s_number_without) .none kV9 dc9 pm9 an9 cd9 ct9), sl9⟩) (c9 : PySem.W.codeIn K cd9 "number_without" = true) (k9 : PySem.W.keepIn K (.ref f9) = true)
    (a10 : PySem.W.nsIn K mainGlobals "way" = some (some (.ref f10))) (l10 : K.lookup f10 = some ⟨oc10, od10, .func (PySem.W.fnOf "way" "way" (defArgs s_way) (defBody s_way) (defScope s_way) .none kV10 dc10 pm10 an10 cd10 ct10), sl10⟩) (c10 : PySem.W.codeIn K cd10 "way" = true) (k10 : PySem.W.keepIn K (.ref f10) = true)
    (a11 : PySem.W.nsIn K mainGlobals "switches" = some (some (.ref f11))) (l11 : K.lookup f11 = some ⟨oc11, od11, .func (PySem.W.fnOf "switches" "switches" (defArgs s_switches) (defBody s_switches) (defScope s_switches) .none kV11 dc11 pm11 an11 cd11 ct11), sl11⟩) (c11 : PySem.W.codeIn K cd11 "switches" = true) (k11 : PySem.W.keepIn K (.ref f11) = true)
    (a12 : PySem.W.nsIn K mainGlobals "meeting" = some (some (.ref f12))) (l12 : K.lookup f12 = some ⟨oc12, od12, .func (PySem.W.fnOf "meeting" "meeting" (defArgs s_meeting) (defBody s_meeting) (defScope s_meeting) .none kV12 dc12 pm12 an12 cd12 ct12), sl12⟩) (c12 : PySem.W.codeIn K cd12 "meeting" = true) (k12 : PySem.W.keepIn K (.ref f12) = true)
    (a13 : PySem.W.nsIn K mainGlobals "parting" = some (some (.ref f13))) (l13 : K.lookup f13 = some ⟨oc13, od13, .func (PySem.W.fnOf "parting" "parting" (defArgs s_parting) (defBody s_parting) (defScope s_parting) .none kV13 dc13 pm13 an13 cd13 ct13), sl13⟩) (c13 : PySem.W.codeIn K cd13 "parting" = true) (k13 : PySem.W.keepIn K (.ref f13) = true)
    (a14 : PySem.W.nsIn K mainGlobals "want_pairs" = some (some (.ref f14))) (l14 : K.lookup f14 = some ⟨oc14, od14, .func (PySem.W.fnOf "want_pairs" "want_pairs" (defArgs s_want_pairs) (defBody s_want_pairs) (defScope s_want_pairs) .none kV14 dc14 pm14 an14 cd14 ct14), sl14⟩) (c14 : PySem.W.codeIn K cd14 "want_pairs" = true) (k14 : PySem.W.keepIn K (.ref f14) = true)
    (a15 : PySem.W.nsIn K mainGlobals "shared_line" = some (some (.ref f15))) (l15 : K.lookup f15 = some ⟨oc15, od15, .func (PySem.W.fnOf "shared_line" "shared_line" (defArgs s_shared_line) (defBody s_shared_line) (defScope s_shared_line) .none kV15 dc15 pm15 an15 cd15 ct15), sl15⟩) (c15 : PySem.W.codeIn K cd15 "shared_line" = true) (k15 : PySem.W.keepIn K (.ref f15) = true)
    (a16 : PySem.W.nsIn K mainGlobals "first_shared" = some (some (.ref f16))) (l16 : K.lookup f16 = some ⟨oc16, od16, .func (PySem.W.fnOf "first_shared" "first_shared" (defArgs s_first_shared) (defBody s_first_shared) (defScope s_first_shared) .none kV16 dc16 pm16 an16 cd16 ct16), sl16⟩) (c16 : PySem.W.codeIn K cd16 "first_shared" = true) (k16 : PySem.W.keepIn K (.ref f16) = true)
    (a17 : PySem.W.nsIn K mainGlobals "is_setting_row" = some (some (.ref f17))) (l17 : K.lookup f17 = some ⟨oc17, od17, .func (PySem.W.fnOf "is_setting_row" "is_setting_row" (defArgs s_is_setting_row) (defBody s_is_setting_row) (defScope s_is_setting_row) .none kV17 dc17 pm17 an17 cd17 ct17), sl17⟩) (c17 : PySem.W.codeIn K cd17 "is_setting_row" = true) (k17 : PySem.W.keepIn K (.ref f17) = true)
    (a18 : PySem.W.nsIn K mainGlobals "is_settings" = some (some (.ref f18))) (l18 : K.lookup f18 = some ⟨oc18, od18, .func (PySem.W.fnOf "is_settings" "is_settings" (defArgs s_is_settings) (defBody s_is_settings) (defScope s_is_settings) .none kV18 dc18 pm18 an18 cd18 ct18), sl18⟩) (c18 : PySem.W.codeIn K cd18 "is_settings" = true) (k18 : PySem.W.keepIn K (.ref f18) = true)
    (a19 : PySem.W.nsIn K mainGlobals "want_settings" = some (some (.ref f19))) (l19 : K.lookup f19 = some ⟨oc19, od19, .func (PySem.W.fnOf "want_settings" "want_settings" (defArgs s_want_settings) (defBody s_want_settings) (defScope s_want_settings) .none kV19 dc19 pm19 an19 cd19 ct19), sl19⟩) (c19 : PySem.W.codeIn K cd19 "want_settings" = true) (k19 : PySem.W.keepIn K (.ref f19) = true)
    (a20 : PySem.W.nsIn K mainGlobals "plain_rows" = some (some (.ref f20))) (l20 : K.lookup f20 = some ⟨oc20, od20, .func (PySem.W.fnOf "plain_rows" "plain_rows" (defArgs s_plain_rows) (defBody s_plain_rows) (defScope s_plain_rows) .none kV20 dc20 pm20 an20 cd20 ct20), sl20⟩) (c20 : PySem.W.codeIn K cd20 "plain_rows" = true) (k20 : PySem.W.keepIn K (.ref f20) = true)
    (a21 : PySem.W.nsIn K mainGlobals "as_settings" = some (some (.ref f21))) (l21 : K.lookup f21 = some ⟨oc21, od21, .func (PySem.W.fnOf "as_settings" "as_settings" (defArgs s_as_settings) (defBody s_as_settings) (defScope s_as_settings) .none kV21 dc21 pm21 an21 cd21 ct21), sl21⟩) (c21 : PySem.W.codeIn K cd21 "as_settings" = true) (k21 : PySem.W.keepIn K (.ref f21) = true)
    (a22 : PySem.W.nsIn K mainGlobals "straight" = some (some (.ref f22))) (l22 : K.lookup f22 = some ⟨oc22, od22, .func (PySem.W.fnOf "straight" "straight" (defArgs s_straight) (defBody s_straight) (defScope s_straight) .none kV22 dc22 pm22 an22 cd22 ct22), sl22⟩) (c22 : PySem.W.codeIn K cd22 "straight" = true) (k22 : PySem.W.keepIn K (.ref f22) = true)
    (a23 : PySem.W.nsIn K mainGlobals "led_from" = some (some (.ref f23))) (l23 : K.lookup f23 = some ⟨oc23, od23, .func (PySem.W.fnOf "led_from" "led_from" (defArgs s_led_from) (defBody s_led_from) (defScope s_led_from) .none kV23 dc23 pm23 an23 cd23 ct23), sl23⟩) (c23 : PySem.W.codeIn K cd23 "led_from" = true) (k23 : PySem.W.keepIn K (.ref f23) = true)
    (a24 : PySem.W.nsIn K mainGlobals "led" = some (some (.ref f24))) (l24 : K.lookup f24 = some ⟨oc24, od24, .func (PySem.W.fnOf "led" "led" (defArgs s_led) (defBody s_led) (defScope s_led) .none kV24 dc24 pm24 an24 cd24 ct24), sl24⟩) (c24 : PySem.W.codeIn K cd24 "led" = true) (k24 : PySem.W.keepIn K (.ref f24) = true)
    (a25 : PySem.W.nsIn K mainGlobals "want_sides" = some (some (.ref f25))) (l25 : K.lookup f25 = some ⟨oc25, od25, .func (PySem.W.fnOf "want_sides" "want_sides" (defArgs s_want_sides) (defBody s_want_sides) (defScope s_want_sides) .none kV25 dc25 pm25 an25 cd25 ct25), sl25⟩) (c25 : PySem.W.codeIn K cd25 "want_sides" = true) (k25 : PySem.W.keepIn K (.ref f25) = true)
    (a26 : PySem.W.nsIn K mainGlobals "settings_by" = some (some (.ref f26))) (l26 : K.lookup f26 = some ⟨oc26, od26, .func (PySem.W.fnOf "settings_by" "settings_by" (defArgs s_settings_by) (defBody s_settings_by) (defScope s_settings_by) .none kV26 dc26 pm26 an26 cd26 ct26), sl26⟩) (c26 : PySem.W.codeIn K cd26 "settings_by" = true) (k26 : PySem.W.keepIn K (.ref f26) = true)
    (a27 : PySem.W.nsIn K mainGlobals "settings_for" = some (some (.ref f27))) (l27 : K.lookup f27 = some ⟨oc27, od27, .func (PySem.W.fnOf "settings_for" "settings_for" (defArgs s_settings_for) (defBody s_settings_for) (defScope s_settings_for) .none kV27 dc27 pm27 an27 cd27 ct27), sl27⟩) (c27 : PySem.W.codeIn K cd27 "settings_for" = true) (k27 : PySem.W.keepIn K (.ref f27) = true)
    (a28 : PySem.W.nsIn K mainGlobals "_law_rich" = some (some (.ref f28))) (l28 : K.lookup f28 = some ⟨oc28, od28, .func (PySem.W.fnOf "_law_rich" "_law_rich" (defArgs s__law_rich) (defBody s__law_rich) (defScope s__law_rich) .none kV28 dc28 pm28 an28 cd28 ct28), sl28⟩) (c28 : PySem.W.codeIn K cd28 "_law_rich" = true) (k28 : PySem.W.keepIn K (.ref f28) = true)
    (a29 : PySem.W.nsIn K mainGlobals "_law_purse" = some (some (.ref f29))) (l29 : K.lookup f29 = some ⟨oc29, od29, .func (PySem.W.fnOf "_law_purse" "_law_purse" (defArgs s__law_purse) (defBody s__law_purse) (defScope s__law_purse) .none kV29 dc29 pm29 an29 cd29 ct29), sl29⟩) (c29 : PySem.W.codeIn K cd29 "_law_purse" = true) (k29 : PySem.W.keepIn K (.ref f29) = true)
    (a30 : PySem.W.nsIn K mainGlobals "_law_take" = some (some (.ref f30))) (l30 : K.lookup f30 = some ⟨oc30, od30, .func (PySem.W.fnOf "_law_take" "_law_take" (defArgs s__law_take) (defBody s__law_take) (defScope s__law_take) .none kV30 dc30 pm30 an30 cd30 ct30), sl30⟩) (c30 : PySem.W.codeIn K cd30 "_law_take" = true) (k30 : PySem.W.keepIn K (.ref f30) = true)
    (a31 : PySem.W.nsIn K mainGlobals "_law_number" = some (some (.ref f31))) (l31 : K.lookup f31 = some ⟨oc31, od31, .func (PySem.W.fnOf "_law_number" "_law_number" (defArgs s__law_number) (defBody s__law_number) (defScope s__law_number) .none kV31 dc31 pm31 an31 cd31 ct31), sl31⟩) (c31 : PySem.W.codeIn K cd31 "_law_number" = true) (k31 : PySem.W.keepIn K (.ref f31) = true)
    (a32 : PySem.W.nsIn K mainGlobals "_law_within" = some (some (.ref f32))) (l32 : K.lookup f32 = some ⟨oc32, od32, .func (PySem.W.fnOf "_law_within" "_law_within" (defArgs s__law_within) (defBody s__law_within) (defScope s__law_within) .none kV32 dc32 pm32 an32 cd32 ct32), sl32⟩) (c32 : PySem.W.codeIn K cd32 "_law_within" = true) (k32 : PySem.W.keepIn K (.ref f32) = true)
    (a33 : PySem.W.nsIn K mainGlobals "_law_odd" = some (some (.ref f33))) (l33 : K.lookup f33 = some ⟨oc33, od33, .func (PySem.W.fnOf "_law_odd" "_law_odd" (defArgs s__law_odd) (defBody s__law_odd) (defScope s__law_odd) .none kV33 dc33 pm33 an33 cd33 ct33), sl33⟩) (c33 : PySem.W.codeIn K cd33 "_law_odd" = true) (k33 : PySem.W.keepIn K (.ref f33) = true)
    (a34 : PySem.W.nsIn K mainGlobals "_law_or_odd" = some (some (.ref f34))) (l34 : K.lookup f34 = some ⟨oc34, od34, .func (PySem.W.fnOf "_law_or_odd" "_law_or_odd" (defArgs s__law_or_odd) (defBody s__law_or_odd) (defScope s__law_or_odd) .none kV34 dc34 pm34 an34 cd34 ct34), sl34⟩) (c34 : PySem.W.codeIn K cd34 "_law_or_odd" = true) (k34 : PySem.W.keepIn K (.ref f34) = true)
    (a35 : PySem.W.nsIn K mainGlobals "_law_settings" = some (some (.ref f35))) (l35 : K.lookup f35 = some ⟨oc35, od35, .func (PySem.W.fnOf "_law_settings" "_law_settings" (defArgs s__law_settings) (defBody s__law_settings) (defScope s__law_settings) .none kV35 dc35 pm35 an35 cd35 ct35), sl35⟩) (c35 : PySem.W.codeIn K cd35 "_law_settings" = true) (k35 : PySem.W.keepIn K (.ref f35) = true)
    (a36 : PySem.W.nsIn K mainGlobals "_law_put" = some (some (.ref f36))) (l36 : K.lookup f36 = some ⟨oc36, od36, .func (PySem.W.fnOf "_law_put" "_law_put" (defArgs s__law_put) (defBody s__law_put) (defScope s__law_put) .none kV36 dc36 pm36 an36 cd36 ct36), sl36⟩) (c36 : PySem.W.codeIn K cd36 "_law_put" = true) (k36 : PySem.W.keepIn K (.ref f36) = true)
    (a37 : PySem.W.nsIn K mainGlobals "_law_bad_row" = some (some (.ref f37))) (l37 : K.lookup f37 = some ⟨oc37, od37, .func (PySem.W.fnOf "_law_bad_row" "_law_bad_row" (defArgs s__law_bad_row) (defBody s__law_bad_row) (defScope s__law_bad_row) .none kV37 dc37 pm37 an37 cd37 ct37), sl37⟩) (c37 : PySem.W.codeIn K cd37 "_law_bad_row" = true) (k37 : PySem.W.keepIn K (.ref f37) = true)
    (a38 : PySem.W.nsIn K mainGlobals "_law_pairs" = some (some (.ref f38))) (l38 : K.lookup f38 = some ⟨oc38, od38, .func (PySem.W.fnOf "_law_pairs" "_law_pairs" (defArgs s__law_pairs) (defBody s__law_pairs) (defScope s__law_pairs) .none kV38 dc38 pm38 an38 cd38 ct38), sl38⟩) (c38 : PySem.W.codeIn K cd38 "_law_pairs" = true) (k38 : PySem.W.keepIn K (.ref f38) = true)
    (a39 : PySem.W.nsIn K mainGlobals "_law_drawn" = some (some (.ref f39))) (l39 : K.lookup f39 = some ⟨oc39, od39, .func (PySem.W.fnOf "_law_drawn" "_law_drawn" (defArgs s__law_drawn) (defBody s__law_drawn) (defScope s__law_drawn) .none kV39 dc39 pm39 an39 cd39 ct39), sl39⟩) (c39 : PySem.W.codeIn K cd39 "_law_drawn" = true) (k39 : PySem.W.keepIn K (.ref f39) = true)
    (a40 : PySem.W.nsIn K mainGlobals "_law_are_pairs" = some (some (.ref f40))) (l40 : K.lookup f40 = some ⟨oc40, od40, .func (PySem.W.fnOf "_law_are_pairs" "_law_are_pairs" (defArgs s__law_are_pairs) (defBody s__law_are_pairs) (defScope s__law_are_pairs) .none kV40 dc40 pm40 an40 cd40 ct40), sl40⟩) (c40 : PySem.W.codeIn K cd40 "_law_are_pairs" = true) (k40 : PySem.W.keepIn K (.ref f40) = true)
    (a41 : PySem.W.nsIn K mainGlobals "_law_pairs_due" = some (some (.ref f41))) (l41 : K.lookup f41 = some ⟨oc41, od41, .func (PySem.W.fnOf "_law_pairs_due" "_law_pairs_due" (defArgs s__law_pairs_due) (defBody s__law_pairs_due) (defScope s__law_pairs_due) .none kV41 dc41 pm41 an41 cd41 ct41), sl41⟩) (c41 : PySem.W.codeIn K cd41 "_law_pairs_due" = true) (k41 : PySem.W.keepIn K (.ref f41) = true)
    (a42 : PySem.W.nsIn K mainGlobals "_law_are_sides" = some (some (.ref f42))) (l42 : K.lookup f42 = some ⟨oc42, od42, .func (PySem.W.fnOf "_law_are_sides" "_law_are_sides" (defArgs s__law_are_sides) (defBody s__law_are_sides) (defScope s__law_are_sides) .none kV42 dc42 pm42 an42 cd42 ct42), sl42⟩) (c42 : PySem.W.codeIn K cd42 "_law_are_sides" = true) (k42 : PySem.W.keepIn K (.ref f42) = true)
    (a43 : PySem.W.nsIn K mainGlobals "_law_are_settings" = some (some (.ref f43))) (l43 : K.lookup f43 = some ⟨oc43, od43, .func (PySem.W.fnOf "_law_are_settings" "_law_are_settings" (defArgs s__law_are_settings) (defBody s__law_are_settings) (defScope s__law_are_settings) .none kV43 dc43 pm43 an43 cd43 ct43), sl43⟩) (c43 : PySem.W.codeIn K cd43 "_law_are_settings" = true) (k43 : PySem.W.keepIn K (.ref f43) = true)
    (a44 : PySem.W.nsIn K mainGlobals "_law_due" = some (some (.ref f44))) (l44 : K.lookup f44 = some ⟨oc44, od44, .func (PySem.W.fnOf "_law_due" "_law_due" (defArgs s__law_due) (defBody s__law_due) (defScope s__law_due) .none kV44 dc44 pm44 an44 cd44 ct44), sl44⟩) (c44 : PySem.W.codeIn K cd44 "_law_due" = true) (k44 : PySem.W.keepIn K (.ref f44) = true)
    (a45 : PySem.W.nsIn K mainGlobals "_law_asked" = some (some (.ref f45))) (l45 : K.lookup f45 = some ⟨oc45, od45, .func (PySem.W.fnOf "_law_asked" "_law_asked" (defArgs s__law_asked) (defBody s__law_asked) (defScope s__law_asked) .none kV45 dc45 pm45 an45 cd45 ct45), sl45⟩) (c45 : PySem.W.codeIn K cd45 "_law_asked" = true) (k45 : PySem.W.keepIn K (.ref f45) = true)
    (a46 : PySem.W.nsIn K mainGlobals "_law_said" = some (some (.ref f46))) (l46 : K.lookup f46 = some ⟨oc46, od46, .func (PySem.W.fnOf "_law_said" "_law_said" (defArgs s__law_said) (defBody s__law_said) (defScope s__law_said) .none kV46 dc46 pm46 an46 cd46 ct46), sl46⟩) (c46 : PySem.W.codeIn K cd46 "_law_said" = true) (k46 : PySem.W.keepIn K (.ref f46) = true)
    (a47 : PySem.W.nsIn K mainGlobals "law" = some (some (.ref f47))) (l47 : K.lookup f47 = some ⟨oc47, od47, .func (PySem.W.fnOf "law" "law" (defArgs s_law) (defBody s_law) (defScope s_law) .none kV47 dc47 pm47 an47 cd47 ct47), sl47⟩) (c47 : PySem.W.codeIn K cd47 "law" = true) (k47 : PySem.W.keepIn K (.ref f47) = true)
    (z0 : PySem.W.nsIn K mainGlobals "ValueError" = some none)
    (z1 : PySem.W.nsIn K mainGlobals "abs" = some none)
    (z2 : PySem.W.nsIn K mainGlobals "all" = some none)
    (z3 : PySem.W.nsIn K mainGlobals "bool" = some none)
    (z4 : PySem.W.nsIn K mainGlobals "dict" = some none)
    (z5 : PySem.W.nsIn K mainGlobals "e" = some none)
    (z6 : PySem.W.nsIn K mainGlobals "enumerate" = some none)
    (z7 : PySem.W.nsIn K mainGlobals "int" = some none)
    (z8 : PySem.W.nsIn K mainGlobals "isinstance" = some none)
    (z9 : PySem.W.nsIn K mainGlobals "len" = some none)
    (z10 : PySem.W.nsIn K mainGlobals "list" = some none)
    (z11 : PySem.W.nsIn K mainGlobals "max" = some none)
    (z12 : PySem.W.nsIn K mainGlobals "min" = some none)
    (z13 : PySem.W.nsIn K mainGlobals "range" = some none)
    (z14 : PySem.W.nsIn K mainGlobals "tuple" = some none)
    : AllD K mg := by
  exact ⟨Df.of l1 c1 k1 (PySem.W.mg_of X G a1) (fun _ _ _ _ _ _ us hl => match us, hl with | [_], _ => rfl), Df.of l2 c2 k2 (PySem.W.mg_of X G a2) (fun _ _ _ _ _ _ us hl => match us, hl with | [_, _, _], _ => rfl), Dfd.of (n := 1) l3 c3 k3 (PySem.W.mg_of X G a3) dl3 rfl (.cons ⟨_, rfl⟩ .nil) rfl (fun us hl => match us, hl with | [_], _ => ⟨_, rfl, rfl⟩), Df.of l4 c4 k4 (PySem.W.mg_of X G a4) (fun _ _ _ _ _ _ us hl => match us, hl with | [_, _], _ => rfl), Df.of l5 c5 k5 (PySem.W.mg_of X G a5) (fun _ _ _ _ _ _ us hl => match us, hl with | [_, _], _ => rfl), Df.of l6 c6 k6 (PySem.W.mg_of X G a6) (fun _ _ _ _ _ _ us hl => match us, hl with | [_, _], _ => rfl), Df.of l7 c7 k7 (PySem.W.mg_of X G a7) (fun _ _ _ _ _ _ us hl => match us, hl with | [_, _, _, _], _ => rfl), Df.of l8 c8 k8 (PySem.W.mg_of X G a8) (fun _ _ _ _ _ _ us hl => match us, hl with | [_, _, _], _ => rfl), Df.of l9 c9 k9 (PySem.W.mg_of X G a9) (fun _ _ _ _ _ _ us hl => match us, hl with | [_, _, _], _ => rfl), Df.of l10 c10 k10 (PySem.W.mg_of X G a10) (fun _ _ _ _ _ _ us hl => match us, hl with | [_, _, _], _ => rfl), Df.of l11 c11 k11 (PySem.W.mg_of X G a11) (fun _ _ _ _ _ _ us hl => match us, hl with | [_, _, _], _ => rfl), Df.of l12 c12 k12 (PySem.W.mg_of X G a12) (fun _ _ _ _ _ _ us hl => match us, hl with | [_, _, _], _ => rfl), Df.of l13 c13 k13 (PySem.W.mg_of X G a13) (fun _ _ _ _ _ _ us hl => match us, hl with | [_, _, _], _ => rfl), Df.of l14 c14 k14 (PySem.W.mg_of X G a14) (fun _ _ _ _ _ _ us hl => match us, hl with | [_, _], _ => rfl), Df.of l15 c15 k15 (PySem.W.mg_of X G a15) (fun _ _ _ _ _ _ us hl => match us, hl with | [_, _], _ => rfl), Df.of l16 c16 k16 (PySem.W.mg_of X G a16) (fun _ _ _ _ _ _ us hl => match us, hl with | [_, _], _ => rfl), Df.of l17 c17 k17 (PySem.W.mg_of X G a17) (fun _ _ _ _ _ _ us hl => match us, hl with | [_, _], _ => rfl), Df.of l18 c18 k18 (PySem.W.mg_of X G a18) (fun _ _ _ _ _ _ us hl => match us, hl with | [_, _], _ => rfl), Df.of l19 c19 k19 (PySem.W.mg_of X G a19) (fun _ _ _ _ _ _ us hl => match us, hl with | [_, _], _ => rfl), Df.of l20 c20 k20 (PySem.W.mg_of X G a20) (fun _ _ _ _ _ _ us hl => match us, hl with | [_], _ => rfl), Df.of l21 c21 k21 (PySem.W.mg_of X G a21) (fun _ _ _ _ _ _ us hl => match us, hl with | [_], _ => rfl), Df.of l22 c22 k22 (PySem.W.mg_of X G a22) (fun _ _ _ _ _ _ us hl => match us, hl with | [_], _ => rfl), Df.of l23 c23 k23 (PySem.W.mg_of X G a23) (fun _ _ _ _ _ _ us hl => match us, hl with | [_, _, _], _ => rfl), Df.of l24 c24 k24 (PySem.W.mg_of X G a24) (fun _ _ _ _ _ _ us hl => match us, hl with | [_, _], _ => rfl), Df.of l25 c25 k25 (PySem.W.mg_of X G a25) (fun _ _ _ _ _ _ us hl => match us, hl with | [_, _], _ => rfl), Df.of l26 c26 k26 (PySem.W.mg_of X G a26) (fun _ _ _ _ _ _ us hl => match us, hl with | [_, _], _ => rfl), Df.of l27 c27 k27 (PySem.W.mg_of X G a27) (fun _ _ _ _ _ _ us hl => match us, hl with | [_, _], _ => rfl), Df.of l28 c28 k28 (PySem.W.mg_of X G a28) (fun _ _ _ _ _ _ us hl => match us, hl with | [_, _], _ => rfl), Df.of l29 c29 k29 (PySem.W.mg_of X G a29) (fun _ _ _ _ _ _ us hl => match us, hl with | [_, _], _ => rfl), Df.of l30 c30 k30 (PySem.W.mg_of X G a30) (fun _ _ _ _ _ _ us hl => match us, hl with | [_, _], _ => rfl), Df.of l31 c31 k31 (PySem.W.mg_of X G a31) (fun _ _ _ _ _ _ us hl => match us, hl with | [_], _ => rfl), Df.of l32 c32 k32 (PySem.W.mg_of X G a32) (fun _ _ _ _ _ _ us hl => match us, hl with | [_, _], _ => rfl), Df.of l33 c33 k33 (PySem.W.mg_of X G a33) (fun _ _ _ _ _ _ us hl => match us, hl with | [_, _], _ => rfl), Df.of l34 c34 k34 (PySem.W.mg_of X G a34) (fun _ _ _ _ _ _ us hl => match us, hl with | [_, _, _], _ => rfl), Df.of l35 c35 k35 (PySem.W.mg_of X G a35) (fun _ _ _ _ _ _ us hl => match us, hl with | [_, _], _ => rfl), Df.of l36 c36 k36 (PySem.W.mg_of X G a36) (fun _ _ _ _ _ _ us hl => match us, hl with | [_, _, _], _ => rfl), Df.of l37 c37 k37 (PySem.W.mg_of X G a37) (fun _ _ _ _ _ _ us hl => match us, hl with | [_, _, _], _ => rfl), Df.of l38 c38 k38 (PySem.W.mg_of X G a38) (fun _ _ _ _ _ _ us hl => match us, hl with | [_, _], _ => rfl), Df.of l39 c39 k39 (PySem.W.mg_of X G a39) (fun _ _ _ _ _ _ us hl => match us, hl with | [_], _ => rfl), Df.of l40 c40 k40 (PySem.W.mg_of X G a40) (fun _ _ _ _ _ _ us hl => match us, hl with | [_], _ => rfl), Df.of l41 c41 k41 (PySem.W.mg_of X G a41) (fun _ _ _ _ _ _ us hl => match us, hl with | [_, _], _ => rfl), Df.of l42 c42 k42 (PySem.W.mg_of X G a42) (fun _ _ _ _ _ _ us hl => match us, hl with | [_, _], _ => rfl), Df.of l43 c43 k43 (PySem.W.mg_of X G a43) (fun _ _ _ _ _ _ us hl => match us, hl with | [_, _], _ => rfl), Df.of l44 c44 k44 (PySem.W.mg_of X G a44) (fun _ _ _ _ _ _ us hl => match us, hl with | [_, _], _ => rfl), Df.of l45 c45 k45 (PySem.W.mg_of X G a45) (fun _ _ _ _ _ _ us hl => match us, hl with | [_, _], _ => rfl), Df.of l46 c46 k46 (PySem.W.mg_of X G a46) (fun _ _ _ _ _ _ us hl => match us, hl with | [_, _], _ => rfl), Df.of l47 c47 k47 (PySem.W.mg_of X G a47) (fun _ _ _ _ _ _ us hl => match us, hl with | [_], _ => rfl), Dfd.ofAll (n := 2) l3 c3 k3 (PySem.W.mg_of X G a3) dl3 rfl rfl (fun us hl => match us, hl with | [_, _], _ => ⟨_, rfl, rfl⟩), ⟨PySem.W.mg_none_of X G z0, PySem.W.mg_none_of X G z1, PySem.W.mg_none_of X G z2, PySem.W.mg_none_of X G z3, PySem.W.mg_none_of X G z4, PySem.W.mg_none_of X G z5, PySem.W.mg_none_of X G z6, PySem.W.mg_none_of X G z7, PySem.W.mg_none_of X G z8, PySem.W.mg_none_of X G z9, PySem.W.mg_none_of X G z10, PySem.W.mg_none_of X G z11, PySem.W.mg_none_of X G z12, PySem.W.mg_none_of X G z13, PySem.W.mg_none_of X G z14, ExcF.of (PySem.W.mg_of X G aE0) xE0 kE0 bE0 tE0 iE0, ExcF.of (PySem.W.mg_of X G aE1) xE1 kE1 bE1 tE1 iE1, ExcF.of (PySem.W.mg_of X G aE2) xE2 kE2 bE2 tE2 iE2, ExcF.of (PySem.W.mg_of X G aE3) xE3 kE3 bE3 tE3 iE3, ExcF.of (PySem.W.mg_of X G aE4) xE4 kE4 bE4 tE4 iE4, ExcF.of (PySem.W.mg_of X G aE5) xE5 kE5 bE5 tE5 iE5, ExcF.of (PySem.W.mg_of X G aE6) xE6 kE6 bE6 tE6 iE6, ExcF.of (PySem.W.mg_of X G aE7) xE7 kE7 bE7 tE7 iE7, ExcF.of (PySem.W.mg_of X G aE8) xE8 kE8 bE8 tE8 iE8, SubF.of (PySem.W.mg_of X G aE4) (PySem.W.mg_of X G aE0) sE4_0, SubF.of (PySem.W.mg_of X G aE4) (PySem.W.mg_of X G aE1) sE4_1, SubF.of (PySem.W.mg_of X G aE4) (PySem.W.mg_of X G aE2) sE4_2, SubF.of (PySem.W.mg_of X G aE4) (PySem.W.mg_of X G aE3) sE4_3, SubF.of (PySem.W.mg_of X G aE4) (PySem.W.mg_of X G aE4) sE4_4, SubF.of (PySem.W.mg_of X G aE4) (PySem.W.mg_of X G aE5) sE4_5, SubF.of (PySem.W.mg_of X G aE4) (PySem.W.mg_of X G aE6) sE4_6, SubF.of (PySem.W.mg_of X G aE4) (PySem.W.mg_of X G aE7) sE4_7, SubF.of (PySem.W.mg_of X G aE4) (PySem.W.mg_of X G aE8) sE4_8, SubF.of (PySem.W.mg_of X G aE3) (PySem.W.mg_of X G aE0) sE3_0, SubF.of (PySem.W.mg_of X G aE3) (PySem.W.mg_of X G aE1) sE3_1, SubF.of (PySem.W.mg_of X G aE3) (PySem.W.mg_of X G aE2) sE3_2, SubF.of (PySem.W.mg_of X G aE3) (PySem.W.mg_of X G aE3) sE3_3, SubF.of (PySem.W.mg_of X G aE3) (PySem.W.mg_of X G aE4) sE3_4, SubF.of (PySem.W.mg_of X G aE3) (PySem.W.mg_of X G aE5) sE3_5, SubF.of (PySem.W.mg_of X G aE3) (PySem.W.mg_of X G aE6) sE3_6, SubF.of (PySem.W.mg_of X G aE3) (PySem.W.mg_of X G aE7) sE3_7, SubF.of (PySem.W.mg_of X G aE3) (PySem.W.mg_of X G aE8) sE3_8, SubF.of (PySem.W.mg_of X G aE7) (PySem.W.mg_of X G aE0) sE7_0, SubF.of (PySem.W.mg_of X G aE7) (PySem.W.mg_of X G aE1) sE7_1, SubF.of (PySem.W.mg_of X G aE7) (PySem.W.mg_of X G aE2) sE7_2, SubF.of (PySem.W.mg_of X G aE7) (PySem.W.mg_of X G aE3) sE7_3, SubF.of (PySem.W.mg_of X G aE7) (PySem.W.mg_of X G aE4) sE7_4, SubF.of (PySem.W.mg_of X G aE7) (PySem.W.mg_of X G aE5) sE7_5, SubF.of (PySem.W.mg_of X G aE7) (PySem.W.mg_of X G aE6) sE7_6, SubF.of (PySem.W.mg_of X G aE7) (PySem.W.mg_of X G aE7) sE7_7, SubF.of (PySem.W.mg_of X G aE7) (PySem.W.mg_of X G aE8) sE7_8, SubF.of (PySem.W.mg_of X G aE6) (PySem.W.mg_of X G aE0) sE6_0, SubF.of (PySem.W.mg_of X G aE6) (PySem.W.mg_of X G aE1) sE6_1, SubF.of (PySem.W.mg_of X G aE6) (PySem.W.mg_of X G aE2) sE6_2, SubF.of (PySem.W.mg_of X G aE6) (PySem.W.mg_of X G aE3) sE6_3, SubF.of (PySem.W.mg_of X G aE6) (PySem.W.mg_of X G aE4) sE6_4, SubF.of (PySem.W.mg_of X G aE6) (PySem.W.mg_of X G aE5) sE6_5, SubF.of (PySem.W.mg_of X G aE6) (PySem.W.mg_of X G aE6) sE6_6, SubF.of (PySem.W.mg_of X G aE6) (PySem.W.mg_of X G aE7) sE6_7, SubF.of (PySem.W.mg_of X G aE6) (PySem.W.mg_of X G aE8) sE6_8, ExcI.of (PySem.W.mg_of X G aE4) ⟨ga4, gt4, bE4, hi4, fc4, spG, tkG, mo4⟩ vE4, ExcI.of (PySem.W.mg_of X G aE3) ⟨ga3, gt3, bE3, hi3, fc3, spG, tkG, mo3⟩ vE3, ExcI.of (PySem.W.mg_of X G aE7) ⟨ga7, gt7, bE7, hi7, fc7, spG, tkG, mo7⟩ vE7, ExcI.of (PySem.W.mg_of X G aE6) ⟨ga6, gt6, bE6, hi6, fc6, spG, tkG, mo6⟩ vE6⟩⟩

theorem law_fd {P : Program} {w : World} {K : PySem.W.Frag} {mg : Str → Option Value} {fa : Addr} (A : AllD K mg) (hfa : mg "law" = some (.ref fa)) :
    ∃ fd : FuncData, (∀ (s : Shared) (v : Value), BindsTo s fd ⟨[v], []⟩ [("_law_script", v)]) ∧ ∀ base : Heap, K.In base → base.Ns mainGlobals mg → FnG P w K mg base CX0 9 fa fd ["_law_script"] (spLaw K) := by
  obtain ⟨f, fd, F, m, b⟩ := A.d_law.ex
  have e := hfa.symm.trans m
  cases e
  refine ⟨fd, fun s v => by obtain ⟨oc, od, kV, doc, pm, an, cdv, ct, osl, rfl, lk, hcd⟩ := F.ex; exact .of_eq rfl, fun base _ _ => ?_⟩
  have B := A.bl
  have D__law_rich : Dn P w K mg base 1 "_law_rich" ["_law_cell", "_law_turn"] (spRich K) := k__law_rich B A.d__law_rich 
  have D__law_purse : Dn P w K mg base 1 "_law_purse" ["_law_script", "_law_k"] (spPurse K) := k__law_purse B A.d__law_purse 
  have D__law_take : Dn P w K mg base 2 "_law_take" ["_law_purse_here", "_law_many"] (spTakeP K) := k__law_take B A.d__law_take D__law_rich
  have D_is_whole : Dn P w K mg base 1 "is_whole" ["thing"] (spWhT K) := k_is_whole B A.d_is_whole 
  have D_is_within : Dn P w K mg base 2 "is_within" ["thing", "least", "most"] (spInT K) := k_is_within B A.d_is_within D_is_whole
  have D_want_net : DxD P w K mg base 3 "want_net" ["k", "deepest"] [.int 4] (spNetT K (cAt mg "NoNet")) := k_want_net B A.d_want_net D_is_within
  have D_want_net_all : DxD P w K mg base 3 "want_net" ["k", "deepest"] [] (spNetT K (cAt mg "NoNet")) := k_want_net_all B A.e_want_net D_is_within
  have D_line_on_way : Dn P w K mg base 1 "line_on_way" ["k", "hand", "goal", "level"] spLow := k_line_on_way B A.d_line_on_way 
  have D_number_without : Dn P w K mg base 1 "number_without" ["k", "line", "stage"] spNwo := k_number_without B A.d_number_without 
  have D_is_line : Dn P w K mg base 2 "is_line" ["k", "thing"] (spLineT K) := k_is_line B A.d_is_line D_is_whole
  have D_want_hand : Dx P w K mg base 3 "want_hand" ["k", "thing"] (spWLT K (cAt mg "NoHand")) := k_want_hand B A.d_want_hand D_is_line
  have D_want_side : Dx P w K mg base 3 "want_side" ["k", "thing"] (spWLT K (cAt mg "NoSide")) := k_want_side B A.d_want_side D_is_line
  have D_way : Dx P w K mg base 4 "way" ["k", "hand", "side"] (spWayT K (cAt mg "NoNet") (cAt mg "NoHand") (cAt mg "NoSide")) := k_way B A.d_way D_want_net D_want_net_all D_want_hand D_want_side D_line_on_way
  have D_switches : Dx P w K mg base 5 "switches" ["k", "hand", "side"] (spSwT K (cAt mg "NoNet") (cAt mg "NoHand") (cAt mg "NoSide")) := k_switches B A.d_switches D_way D_number_without
  have D_meeting : Dx P w K mg base 4 "meeting" ["k", "one", "other"] (spMeetT K (cAt mg "NoNet") (cAt mg "NoHand")) := k_meeting B A.d_meeting D_want_net D_want_net_all D_want_hand
  have D_parting : Dx P w K mg base 4 "parting" ["k", "one", "other"] (spMeetT K (cAt mg "NoNet") (cAt mg "NoSide")) := k_parting B A.d_parting D_want_net D_want_net_all D_want_side
  have D_want_pairs : Dx P w K mg base 4 "want_pairs" ["k", "pairs"] (spWPT K (cAt mg "NoHand") (cAt mg "NoSide")) := k_want_pairs B A.d_want_pairs D_want_hand D_want_side
  have D_shared_line : Dn P w K mg base 2 "shared_line" ["k", "pairs"] (spShared K) := k_shared_line B A.d_shared_line D_line_on_way
  have D_figure_in : Dn P w K mg base 1 "figure_in" ["k", "line", "stage"] spFig := k_figure_in B A.d_figure_in 
  have D_plain_rows : Dn P w K mg base 1 "plain_rows" ["k"] spPlain := k_plain_rows B A.d_plain_rows 
  have D_as_settings : Dn P w K mg base 1 "as_settings" ["rows"] (spAsSe K) := k_as_settings B A.d_as_settings 
  have D_settings_by : Dn P w K mg base 3 "settings_by" ["k", "sides"] (spSetBy K) := k_settings_by B A.d_settings_by D_plain_rows D_figure_in D_number_without D_as_settings
  have D_first_shared : Dx P w K mg base 5 "first_shared" ["k", "pairs"] (spFSh K (cAt mg "NoNet") (cAt mg "NoHand") (cAt mg "NoSide")) := k_first_shared B A.d_first_shared D_want_net D_want_net_all D_want_pairs D_shared_line
  have D_want_sides : Dx P w K mg base 3 "want_sides" ["k", "sides"] (spWSd K (cAt mg "NoSide")) := k_want_sides B A.d_want_sides D_is_line
  have D_settings_for : Dx P w K mg base 6 "settings_for" ["k", "sides"] (spSFT K (cAt mg "NoNet") (cAt mg "NoSide")) := k_settings_for B A.d_settings_for D_want_net D_want_net_all D_want_sides D_shared_line D_settings_by
  have D_led_from : Dn P w K mg base 2 "led_from" ["k", "settings", "hand"] (spLedF K) := k_led_from B A.d_led_from D_number_without
  have D_is_setting_row : Dn P w K mg base 2 "is_setting_row" ["k", "thing"] (spSRT K) := k_is_setting_row B A.d_is_setting_row D_is_whole
  have D_is_settings : Dx P w K mg base 4 "is_settings" ["k", "thing"] (spISN K (cAt mg "NoNet")) := k_is_settings B A.d_is_settings D_want_net D_want_net_all D_is_setting_row
  have D_want_settings : Dx P w K mg base 5 "want_settings" ["k", "thing"] (spWSN K (cAt mg "NoSettings")) := k_want_settings B A.d_want_settings D_is_settings
  have D_straight : Dx P w K mg base 4 "straight" ["k"] (spStN K (cAt mg "NoNet")) := k_straight B A.d_straight D_want_net D_want_net_all D_plain_rows D_as_settings
  have D_led : Dx P w K mg base 6 "led" ["k", "settings"] (spLedN K (cAt mg "NoNet") (cAt mg "NoSettings")) := k_led B A.d_led D_want_net D_want_net_all D_want_settings D_led_from
  have D__law_number : Dn P w K mg base 1 "_law_number" ["_law_thing"] (spNmT K) := k__law_number B A.d__law_number 
  have D__law_within : Dn P w K mg base 2 "_law_within" ["_law_k", "_law_thing"] (spWiT K) := k__law_within B A.d__law_within D__law_number
  have D__law_odd : Dn P w K mg base 3 "_law_odd" ["_law_purse_here", "_law_many"] (spOdd37 K) := k__law_odd B A.d__law_odd D__law_take
  have D__law_or_odd : Dn P w K mg base 4 "_law_or_odd" ["_law_purse_here", "_law_good", "_law_many"] (spOrO K) := k__law_or_odd B A.d__law_or_odd D__law_take D__law_odd
  have D__law_settings : Dn P w K mg base 3 "_law_settings" ["_law_purse_here", "_law_k"] (spSettS K) := k__law_settings B A.d__law_settings D__law_take
  have D__law_put : Dn P w K mg base 1 "_law_put" ["_law_row", "_law_at", "_law_thing"] spPutR := k__law_put B A.d__law_put 
  have D__law_bad_row : Dn P w K mg base 3 "_law_bad_row" ["_law_purse_here", "_law_row", "_law_thing"] (spBR37 K) := k__law_bad_row B A.d__law_bad_row D__law_take D__law_put
  have D__law_pairs : Dn P w K mg base 5 "_law_pairs" ["_law_purse_here", "_law_k"] (spPairs37 K) := k__law_pairs B A.d__law_pairs D__law_take D__law_or_odd D__law_bad_row
  have D__law_drawn : Dn P w K mg base 6 "_law_drawn" ["_law_purse_here"] (spDrawn K) := k__law_drawn B A.d__law_drawn D__law_take D__law_or_odd D__law_bad_row D__law_odd D__law_settings D__law_pairs
  have D__law_are_pairs : Dn P w K mg base 1 "_law_are_pairs" ["_law_thing"] (spArP K) := k__law_are_pairs B A.d__law_are_pairs 
  have D__law_pairs_due : Dn P w K mg base 3 "_law_pairs_due" ["_law_k", "_law_pairs_here"] (spPDue K) := k__law_pairs_due B A.d__law_pairs_due D__law_are_pairs D__law_within
  have D__law_are_sides : Dn P w K mg base 3 "_law_are_sides" ["_law_k", "_law_sides"] (spArS K) := k__law_are_sides B A.d__law_are_sides D__law_within
  have D__law_are_settings : Dn P w K mg base 3 "_law_are_settings" ["_law_k", "_law_thing"] (spArSe K) := k__law_are_settings B A.d__law_are_settings D__law_within
  have D__law_due : Dn P w K mg base 4 "_law_due" ["_law_way_of", "_law_drawn_here"] (spDue K) := k__law_due B A.d__law_due D__law_number D__law_within D__law_pairs_due D__law_are_sides D__law_are_settings
  have D__law_asked : Dx P w K mg base 7 "_law_asked" ["_law_way_of", "_law_drawn_here"] (spAsked K (cAt mg)) := k__law_asked B A.d__law_asked D_way D_switches D_meeting D_parting D_first_shared D_settings_for D_led D_straight D_is_settings
  have D__law_said : Dn P w K mg base 8 "_law_said" ["_law_way_of", "_law_drawn_here"] (spSaid K) := k__law_said B A.d__law_said D__law_asked
  exact k_law B F D__law_purse D__law_drawn D__law_said D__law_due D_way D_led

theorem walk {l : PySem.W.OpenLaw} {q : Program} {loose : List Str} {XP : (Str → Option Value) → Heap → Prop} {YP : World → Heap → Prop} {d : DefRec} {K : Params → PySem.W.Frag} (hn : l.most = some 63) (hdf : d.params.defaults = [])
    (hY : ∀ (w : World) (h : Heap), YP w h → (K w.params).In h) (hname : d.name = "law") (F : ∀ (w : World) (mg : Str → Option Value) (h : Heap), (K w.params).In h → h.Ns mainGlobals mg → AllD (K w.params) mg) :
    PySem.W.WalkO q loose XP YP l.row.toRowW d [] (fun f vs => PySem.call f vs) :=
  walk_G (n := 63) (k := 9) (x := "_law_script") (sp := spLaw) hn (by decide) hdf ⟨rfl, by decide, by decide⟩ hY
    (fun w mg fa h KX G hfa => law_fd (F w mg h KX G) (by rw [hname] at hfa; exact hfa)) fun _ _ a ns hl hS => ⟨a, ns, rfl, hS, hl, fun _ => rfl⟩
end Toy
open PySem PySem.W PyProof.Rows
set_option maxRecDepth 100000 in
set_option maxHeartbeats 0 in
theorem PySem.Challenge.cw_joinedasks_k37_refused_in_order_holds : PySem.Challenge.rw_joinedasks_k37_refused_in_order.Holds := by
  w_on; o_law; k_head; (case hw => w_witness2)
  k_fill
  refine Toy.walk (l := PySem.Challenge.rw_joinedasks_k37_refused_in_order) rfl rfl (fun w h Y => PySem.W.kIn_of Y) rfl ?F
  case F =>
    intro w mg h KX G
    refine' Toy.all_mk (w := w) KX G ?aE0 ?xE0 ?kE0 ?bE0 ?tE0 ?iE0 ?aE1 ?xE1 ?kE1 ?bE1 ?tE1 ?iE1 ?aE2 ?xE2 ?kE2 ?bE2 ?tE2 ?iE2 ?aE3 ?xE3 ?kE3 ?bE3 ?tE3 ?iE3 ?aE4 ?xE4 ?kE4 ?bE4 ?tE4 ?iE4 ?aE5 ?xE5 ?kE5 ?bE5 ?tE5 ?iE5 ?aE6 ?xE6 ?kE6 ?bE6 ?tE6 ?iE6 ?aE7 ?xE7 ?kE7 ?bE7 ?tE7 ?iE7 ?aE8 ?xE8 ?kE8 ?bE8 ?tE8 ?iE8 ?sE4_0 ?sE4_1 ?sE4_2 ?sE4_3 ?sE4_4 ?sE4_5 ?sE4_6 ?sE4_7 ?sE4_8 ?sE3_0 ?sE3_1 ?sE3_2 ?sE3_3 ?sE3_4 ?sE3_5 ?sE3_6 ?sE3_7 ?sE3_8 ?sE7_0 ?sE7_1 ?sE7_2 ?sE7_3 ?sE7_4 ?sE7_5 ?sE7_6 ?sE7_7 ?sE7_8 ?sE6_0 ?sE6_1 ?sE6_2 ?sE6_3 ?sE6_4 ?sE6_5 ?sE6_6 ?sE6_7 ?sE6_8 ?spG ?tkG ?ga4 ?gt4 ?hi4 ?fc4 ?mo4 ?vE4 ?ga3 ?gt3 ?hi3 ?fc3 ?mo3 ?vE3 ?ga7 ?gt7 ?hi7 ?fc7 ?mo7 ?vE7 ?ga6 ?gt6 ?hi6 ?fc6 ?mo6 ?vE6 ?a1 ?l1 ?c1 ?k1 ?a2 ?l2 ?c2 ?k2 ?a3 ?l3 ?c3 ?k3 ?dl3 ?a4 ?l4 ?c4 ?k4 ?a5 ?l5 ?c5 ?k5 ?a6 ?l6 ?c6 ?k6 ?a7 ?l7 ?c7 ?k7 ?a8 ?l8 ?c8 ?k8 ?a9 ?l9 ?c9 ?k9 ?a10 ?l10 ?c10 ?k10 ?a11 ?l11 ?c11 ?k11 ?a12 ?l12 ?c12 ?k12 ?a13 ?l13 ?c13 ?k13 ?a14 ?l14 ?c14 ?k14 ?a15 ?l15 ?c15 ?k15 ?a16 ?l16 ?c16 ?k16 ?a17 ?l17 ?c17 ?k17 ?a18 ?l18 ?c18 ?k18 ?a19 ?l19 ?c19 ?k19 ?a20 ?l20 ?c20 ?k20 ?a21 ?l21 ?c21 ?k21 ?a22 ?l22 ?c22 ?k22 ?a23 ?l23 ?c23 ?k23 ?a24 ?l24 ?c24 ?k24 ?a25 ?l25 ?c25 ?k25 ?a26 ?l26 ?c26 ?k26 ?a27 ?l27 ?c27 ?k27 ?a28 ?l28 ?c28 ?k28 ?a29 ?l29 ?c29 ?k29 ?a30 ?l30 ?c30 ?k30 ?a31 ?l31 ?c31 ?k31 ?a32 ?l32 ?c32 ?k32 ?a33 ?l33 ?c33 ?k33 ?a34 ?l34 ?c34 ?k34 ?a35 ?l35 ?c35 ?k35 ?a36 ?l36 ?c36 ?k36 ?a37 ?l37 ?c37 ?k37 ?a38 ?l38 ?c38 ?k38 ?a39 ?l39 ?c39 ?k39 ?a40 ?l40 ?c40 ?k40 ?a41 ?l41 ?c41 ?k41 ?a42 ?l42 ?c42 ?k42 ?a43 ?l43 ?c43 ?k43 ?a44 ?l44 ?c44 ?k44 ?a45 ?l45 ?c45 ?k45 ?a46 ?l46 ?c46 ?k46 ?a47 ?l47 ?c47 ?k47 ?z0 ?z1 ?z2 ?z3 ?z4 ?z5 ?z6 ?z7 ?z8 ?z9 ?z10 ?z11 ?z12 ?z13 ?z14
    (case aE0 => k_is)
    (case xE0 => k_exc)
    (case kE0 => k_is)
    (case bE0 => k_is)
    (case tE0 => k_is)
    (case iE0 => k_is)
    (case aE1 => k_is)
    (case xE1 => k_exc)
    (case kE1 => k_is)
    (case bE1 => k_is)
    (case tE1 => k_is)
    (case iE1 => k_is)
    (case aE2 => k_is)
    (case xE2 => k_exc)
    (case kE2 => k_is)
    (case bE2 => k_is)
    (case tE2 => k_is)
    (case iE2 => k_is)
    (case aE3 => k_is)
    (case xE3 => k_exc)
    (case kE3 => k_is)
    (case bE3 => k_is)
    (case tE3 => k_is)
    (case iE3 => k_is)
    (case aE4 => k_is)
    (case xE4 => k_exc)
    (case kE4 => k_is)
    (case bE4 => k_is)
    (case tE4 => k_is)
    (case iE4 => k_is)
    (case aE5 => k_is)
    (case xE5 => k_exc)
    (case kE5 => k_is)
    (case bE5 => k_is)
    (case tE5 => k_is)
    (case iE5 => k_is)
    (case aE6 => k_is)
    (case xE6 => k_exc)
    (case kE6 => k_is)
    (case bE6 => k_is)
    (case tE6 => k_is)
    (case iE6 => k_is)
    (case aE7 => k_is)
    (case xE7 => k_exc)
    (case kE7 => k_is)
    (case bE7 => k_is)
    (case tE7 => k_is)
    (case iE7 => k_is)
    (case aE8 => k_is)
    (case xE8 => k_exc)
    (case kE8 => k_is)
    (case bE8 => k_is)
    (case tE8 => k_is)
    (case iE8 => k_is)
    (case sE4_0 => first | rfl | k_is)
    (case sE4_1 => first | rfl | k_is)
    (case sE4_2 => first | rfl | k_is)
    (case sE4_3 => first | rfl | k_is)
    (case sE4_4 => first | rfl | k_is)
    (case sE4_5 => first | rfl | k_is)
    (case sE4_6 => first | rfl | k_is)
    (case sE4_7 => first | rfl | k_is)
    (case sE4_8 => first | rfl | k_is)
    (case sE3_0 => first | rfl | k_is)
    (case sE3_1 => first | rfl | k_is)
    (case sE3_2 => first | rfl | k_is)
    (case sE3_3 => first | rfl | k_is)
    (case sE3_4 => first | rfl | k_is)
    (case sE3_5 => first | rfl | k_is)
    (case sE3_6 => first | rfl | k_is)
    (case sE3_7 => first | rfl | k_is)
    (case sE3_8 => first | rfl | k_is)
    (case sE7_0 => first | rfl | k_is)
    (case sE7_1 => first | rfl | k_is)
    (case sE7_2 => first | rfl | k_is)
    (case sE7_3 => first | rfl | k_is)
    (case sE7_4 => first | rfl | k_is)
    (case sE7_5 => first | rfl | k_is)
    (case sE7_6 => first | rfl | k_is)
    (case sE7_7 => first | rfl | k_is)
    (case sE7_8 => first | rfl | k_is)
    (case sE6_0 => first | rfl | k_is)
    (case sE6_1 => first | rfl | k_is)
    (case sE6_2 => first | rfl | k_is)
    (case sE6_3 => first | rfl | k_is)
    (case sE6_4 => first | rfl | k_is)
    (case sE6_5 => first | rfl | k_is)
    (case sE6_6 => first | rfl | k_is)
    (case sE6_7 => first | rfl | k_is)
    (case sE6_8 => first | rfl | k_is)
    (case spG => k_is)
    (case tkG => k_is)
    (case ga4 => k_is)
    (case gt4 => k_is)
    (case hi4 => k_is)
    (case fc4 => k_is)
    (case mo4 => k_is)
    (case vE4 => k_is)
    (case ga3 => k_is)
    (case gt3 => k_is)
    (case hi3 => k_is)
    (case fc3 => k_is)
    (case mo3 => k_is)
    (case vE3 => k_is)
    (case ga7 => k_is)
    (case gt7 => k_is)
    (case hi7 => k_is)
    (case fc7 => k_is)
    (case mo7 => k_is)
    (case vE7 => k_is)
    (case ga6 => k_is)
    (case gt6 => k_is)
    (case hi6 => k_is)
    (case fc6 => k_is)
    (case mo6 => k_is)
    (case vE6 => k_is)
    (case a1 => k_is)
    (case l1 => k_is)
    (case c1 => k_is)
    (case k1 => k_is)
    (case a2 => k_is)
    (case l2 => k_is)
    (case c2 => k_is)
    (case k2 => k_is)
    (case a3 => k_is)
    (case l3 => k_is)
    (case c3 => k_is)
    (case k3 => k_is)
    (case dl3 => k_is)
    (case a4 => k_is)
    (case l4 => k_is)
    (case c4 => k_is)
    (case k4 => k_is)
    (case a5 => k_is)
    (case l5 => k_is)
    (case c5 => k_is)
    (case k5 => k_is)
    (case a6 => k_is)
    (case l6 => k_is)
    (case c6 => k_is)
    (case k6 => k_is)
    (case a7 => k_is)
    (case l7 => k_is)
    (case c7 => k_is)
    (case k7 => k_is)
    (case a8 => k_is)
    (case l8 => k_is)
    (case c8 => k_is)
    (case k8 => k_is)
    (case a9 => k_is)
    (case l9 => k_is)
    (case c9 => k_is)
    (case k9 => k_is)
    (case a10 => k_is)
    (case l10 => k_is)
    (case c10 => k_is)
    (case k10 => k_is)
    (case a11 => k_is)
    (case l11 => k_is)
    (case c11 => k_is)
    (case k11 => k_is)
    (case a12 => k_is)
    (case l12 => k_is)
    (case c12 => k_is)
    (case k12 => k_is)
    (case a13 => k_is)
    (case l13 => k_is)
    (case c13 => k_is)
    (case k13 => k_is)
    (case a14 => k_is)
    (case l14 => k_is)
    (case c14 => k_is)
    (case k14 => k_is)
    (case a15 => k_is)
    (case l15 => k_is)
    (case c15 => k_is)
    (case k15 => k_is)
    (case a16 => k_is)
    (case l16 => k_is)
    (case c16 => k_is)
    (case k16 => k_is)
    (case a17 => k_is)
    (case l17 => k_is)
    (case c17 => k_is)
    (case k17 => k_is)
    (case a18 => k_is)
    (case l18 => k_is)
    (case c18 => k_is)
    (case k18 => k_is)
    (case a19 => k_is)
    (case l19 => k_is)
    (case c19 => k_is)
    (case k19 => k_is)
    (case a20 => k_is)
    (case l20 => k_is)
    (case c20 => k_is)
    (case k20 => k_is)
    (case a21 => k_is)
    (case l21 => k_is)
    (case c21 => k_is)
    (case k21 => k_is)
    (case a22 => k_is)
    (case l22 => k_is)
    (case c22 => k_is)
    (case k22 => k_is)
    (case a23 => k_is)
    (case l23 => k_is)
    (case c23 => k_is)
    (case k23 => k_is)
    (case a24 => k_is)
    (case l24 => k_is)
    (case c24 => k_is)
    (case k24 => k_is)
    (case a25 => k_is)
    (case l25 => k_is)
    (case c25 => k_is)
    (case k25 => k_is)
    (case a26 => k_is)
    (case l26 => k_is)
    (case c26 => k_is)
    (case k26 => k_is)
    (case a27 => k_is)
    (case l27 => k_is)
    (case c27 => k_is)
    (case k27 => k_is)
    (case a28 => k_is)
    (case l28 => k_is)
    (case c28 => k_is)
    (case k28 => k_is)
    (case a29 => k_is)
    (case l29 => k_is)
    (case c29 => k_is)
    (case k29 => k_is)
    (case a30 => k_is)
    (case l30 => k_is)
    (case c30 => k_is)
    (case k30 => k_is)
    (case a31 => k_is)
    (case l31 => k_is)
    (case c31 => k_is)
    (case k31 => k_is)
    (case a32 => k_is)
    (case l32 => k_is)
    (case c32 => k_is)
    (case k32 => k_is)
    (case a33 => k_is)
    (case l33 => k_is)
    (case c33 => k_is)
    (case k33 => k_is)
    (case a34 => k_is)
    (case l34 => k_is)
    (case c34 => k_is)
    (case k34 => k_is)
    (case a35 => k_is)
    (case l35 => k_is)
    (case c35 => k_is)
    (case k35 => k_is)
    (case a36 => k_is)
    (case l36 => k_is)
    (case c36 => k_is)
    (case k36 => k_is)
    (case a37 => k_is)
    (case l37 => k_is)
    (case c37 => k_is)
    (case k37 => k_is)
    (case a38 => k_is)
    (case l38 => k_is)
    (case c38 => k_is)
    (case k38 => k_is)
    (case a39 => k_is)
    (case l39 => k_is)
    (case c39 => k_is)
    (case k39 => k_is)
    (case a40 => k_is)
    (case l40 => k_is)
    (case c40 => k_is)
    (case k40 => k_is)
    (case a41 => k_is)
    (case l41 => k_is)
    (case c41 => k_is)
    (case k41 => k_is)
    (case a42 => k_is)
    (case l42 => k_is)
    (case c42 => k_is)
    (case k42 => k_is)
    (case a43 => k_is)
    (case l43 => k_is)
    (case c43 => k_is)
    (case k43 => k_is)
    (case a44 => k_is)
    (case l44 => k_is)
    (case c44 => k_is)
    (case k44 => k_is)
    (case a45 => k_is)
    (case l45 => k_is)
    (case c45 => k_is)
    (case k45 => k_is)
    (case a46 => k_is)
    (case l46 => k_is)
    (case c46 => k_is)
    (case k46 => k_is)
    (case a47 => k_is)
    (case l47 => k_is)
    (case c47 => k_is)
    (case k47 => k_is)
    (case z0 => k_is)
    (case z1 => k_is)
    (case z2 => k_is)
    (case z3 => k_is)
    (case z4 => k_is)
    (case z5 => k_is)
    (case z6 => k_is)
    (case z7 => k_is)
    (case z8 => k_is)
    (case z9 => k_is)
    (case z10 => k_is)
    (case z11 => k_is)
    (case z12 => k_is)
    (case z13 => k_is)
    (case z14 => k_is)
#print axioms PySem.Challenge.cw_joinedasks_k37_refused_in_order_holds

