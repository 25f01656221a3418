import PyProof.Rows.All
import Wide.All
import OpenK.AllK
import Wide.FinOn
import HandS.ForMost
import HandS.Defaults
import HandS.WideBits
import HandS.Conv
import HandS.IsInst
import HandS.RaiseMore
import HandS.SortInts
import HandS.Style
import HandS.Codes
import HandS.ForExc
import HandS.TryMany
import HandS.Flow
import KE.KEqSeq
import PyProof.ReprRoads
import KE.GoesMore
import KE.KDictZip
import PyProof.ListNew
import PyProof.StrLawsRepr
import HandS.TupAny
import HandS.TryOnly
import HandS.ExcIs
import HandS.NoneIn
import PySem.Challenge.RW_joinedasks_k11_deeds_known
set_option Elab.async false
set_option linter.all false
set_option maxRecDepth 100000
set_option maxHeartbeats 4000000
set_option exponentiation.threshold 100000
namespace Toy
open PySem PySem.Spec PyProof.Rows L2
/-- a def of the text stands behind its name -/
structure Df (K : PySem.W.Frag) (mg : Str → Option Value) (x : Str) (st : Stmt) (ps : List Str) : Prop where
  ex : ∃ f fd, Fun K x x st f fd ∧ mg x = some (.ref f) ∧ Binds K fd ps []
theorem Df.of {K : PySem.W.Frag} {mg : Str → Option Value} {x : Str} {st : Stmt} {ps : List Str} {f : Addr} {oc : Value} {od an : Option Addr} {osl : Array (Option Value)} {kV doc pm cdv ct : Value}
    (l : K.lookup f = some ⟨oc, od, .func (PySem.W.fnOf x x (defArgs st) (defBody st) (defScope st) .none kV doc pm an cdv ct), osl⟩) (c : PySem.W.codeIn K cdv x = true) (k : PySem.W.keepIn K (.ref f) = true) (m : mg x = some (.ref f))
    (h : ∀ (kV doc pm : Value) (an : Option Addr) (cdv ct : Value) (us : List Value), us.length = ps.length → bindArgs (PySem.W.fnOf x x (defArgs st) (defBody st) (defScope st) .none kV doc pm an cdv ct) ⟨us, []⟩ = pure (ps.zip us)) : Df K mg x st ps :=
  ⟨_, _, fun_mk l c k, m, (fun_mk l c k).binds h⟩
end Toy
namespace Toy
open PySem PySem.Spec PyProof.Rows L2
/-- room for calls, and nothing is being shown (repr, str of containers ask that) -/
structure RoomG (k : Nat) (A : Around) : Prop where
  room : Room k A
  idle : A.guards = some []
theorem RoomG.less {j k : Nat} {A : Around} (r : RoomG k A) (h : j ≤ k) : RoomG j A := ⟨r.room.mono h, r.idle⟩
theorem RoomG.units {k : Nat} {A : Around} (r : RoomG k A) : A.units + 64 < cLine := r.room.units
theorem RoomG.in_ {k : Nat} {A : Around} (r : RoomG (k + 1) A) (env : Env) : RoomG k (A.deeper env) := ⟨r.room.deeper env, r.idle⟩
/-- a def's promise under such a call -/
structure FnG (P : Program) (w : World) (K : PySem.W.Frag) (mg : Str → Option Value) (base : Heap) (CX : CXT) (k : Nat) (f : Addr) (fd : FuncData) (ps : List Str) (sp : Sp) : Prop where
  arity : ∀ vs H Q E, sp vs H Q E → vs.length = ps.length
  go : ∀ {A : Around} {outer : List Env} {s : Shared} {H : Hp} {args : Args} {us : List Value} {vs : List V} {Q : VK} {E : XK}, RoomG k A → Env0 P w K mg base A outer s H →
    BindsTo s fd args (ps.zip us) → Vals vs us → sp vs H Q E → codeAny (model P w) A (.call (.ref f) args) (CR CX outer P w H s Q E) s
section
variable {P : Program} {w : World} {K : PySem.W.Frag} {mg : Str → Option Value} {base : Heap} {CX : CXT}
/-- a body that ends well ends the call well -/
theorem flow_end {N : List Str} {qual : Str} {scope : Scope} {f : Addr} {cd : Value} {A : Around} {outer : List Env} {s : Shared} {H : Hp} {Q : VK} {E : XK} {fl : Flow} {s' : Shared}
    (h : SP (cxOf CX P w K mg base N qual scope f cd A outer s H E) [] { nx := fun _ H' => Q .non H', rt := Q } fl s') :
    ∃ u, (fl = .next ∧ u = Value.none ∨ fl = .ret u) ∧ CE outer P w H s Q u s' := by
  cases fl with
  | next =>
    obtain ⟨σ, H1, J, q⟩ := h
    exact ⟨_, .inl ⟨rfl, rfl⟩, .non, H1, J.os, J.bare, J.base, J.hok, rfl, q⟩
  | ret u =>
    obtain ⟨v, σ, H1, J, r, q⟩ := h
    exact ⟨u, .inr rfl, v, H1, J.os, J.bare, J.base, J.hok, r, q⟩
  | brk =>
    obtain ⟨_, _, _, q⟩ := h
    cases q
  | cont =>
    obtain ⟨_, _, _, q⟩ := h
    cases q
/-- a def of the text, whatever its defaults -/
structure FunA (K : PySem.W.Frag) (x qual : Str) (st : Stmt) (f : Addr) (fd : FuncData) : Prop where
  ex : ∃ (oc : Value) (od : Option Addr) (dV kV doc pm : Value) (an : Option Addr) (cdv ct : Value) (osl : Array (Option Value)),
    fd = PySem.W.fnOf x qual (defArgs st) (defBody st) (defScope st) dV kV doc pm an cdv ct ∧ K.lookup f = some ⟨oc, od, .func fd, osl⟩ ∧ PySem.W.codeIn K cdv qual = true
theorem toA {K : PySem.W.Frag} {x qual : Str} {st : Stmt} {f : Addr} {fd : FuncData} (F : Fun K x qual st f fd) : FunA K x qual st f fd := by
  obtain ⟨oc, od, kV, doc, pm, an, cdv, ct, osl, e, lk, hcd⟩ := F.ex
  exact ⟨⟨oc, od, .none, kV, doc, pm, an, cdv, ct, osl, e, lk, hcd⟩⟩
theorem okGA {x qual : Str} {st : Stmt} {f : Addr} {fd : FuncData} {N ps : List Str} {k : Nat} {sp : Sp} (F : FunA K x qual st f fd) (S : FnScope N ps (defScope st)) (ar : ∀ vs H Q E, sp vs H Q E → vs.length = ps.length)
    (body : ∀ (cdv : Value) (A : Around) (outer : List Env) (s : Shared) (H : Hp) (vs : List V) (Q : VK) (E : XK), RoomG k (A.deeper (envOfC qual (defScope st) s.heap.objs.size f cdv)) → sp vs H Q E →
      ∃ t, PSs (cxOf CX P w K mg base N qual (defScope st) f cdv A outer s H E) (defBody st) t ∧ t { nx := fun _ H' => Q .non H', rt := Q } (start N vs) H) : FnG P w K mg base CX (k + 1) f fd ps sp := by
  obtain ⟨oc, od, dV, kV, doc, pm, an, cdv, ct, osl, rfl, lk, hcd⟩ := F.ex
  refine ⟨ar, ?_⟩
  intro A outer s H args us vs Q E room e0 hb rv hsp
  have kin : K.In s.heap := e0.mod.kin.keeps fun b o z => (e0.bs b o z).1
  have nolim : s.heap.NoLimit := e0.mod.nolimit.keeps fun b o z => (e0.bs b o z).1
  have kinds : ∀ y ∈ ps.zip us, (defScope st).names.lookup y.1 = some .local ∨ ((defScope st).names.lookup y.1 = some .cell ∧ ((cellsFrom (s.heap.objs.size + 1) (defScope st).names []).lookup y.1).isSome = true) := by
    rintro ⟨n, v⟩ hy
    exact (S.par n (List.of_mem_zip hy).1).imp _root_.id fun q => ⟨q, PySem.W.cellsFrom_some _ _ _ (.inl q)⟩
  refine codeAny_call_function room.room.depth (kin _ _ lk) rfl S.co S.gen rfl (PySem.W.codeRec_of kin hcd) (hb _ _ _ _ (wpAny_newFunctionEnv_cells S.kind kinds fun env he s1 inC => ?_))
  subst he
  obtain ⟨t, ht, hq⟩ := body cdv A outer s H vs Q E (room.in_ _) hsp
  refine ⟨nolim.keeps inC.toInCall.keep, codeAny_func (wpAny_mono (ht.run [] s1 (start N vs) H _ (inv_start S room.room.hd e0 (ar _ _ _ _ hsp) rv inC) hq) (fun fl s' z => ?_) fun e s' z => z)⟩
  obtain ⟨u, c, q⟩ := flow_end z
  rcases c with ⟨rfl, rfl⟩ | rfl
  · exact q
  · exact q
theorem okG0A {x qual : Str} {st : Stmt} {f : Addr} {fd : FuncData} {N ps : List Str} {k : Nat} {sp : Sp} (F : FunA K x qual st f fd) (S : FnScope N ps (defScope st)) (ar : ∀ vs H Q E, sp vs H Q E → vs.length = ps.length)
    (body : ∀ (cdv : Value) (A : Around) (outer : List Env) (s : Shared) (H : Hp) (vs : List V) (Q : VK) (E : XK), RoomG k (A.deeper (envOfC qual (defScope st) s.heap.objs.size f cdv)) → sp vs H Q E →
      ∃ t, PSs (cxOf CX0 P w K mg base N qual (defScope st) f cdv A outer s H E).nox (defBody st) t ∧ t { nx := fun _ H' => Q .non H', rt := Q } (start N vs) H) : FnG P w K mg base CX0 (k + 1) f fd ps sp :=
  okGA F S ar fun cdv A outer s H vs Q E hr hsp => (body cdv A outer s H vs Q E hr hsp).imp fun _ z => ⟨z.1.nox, z.2⟩
theorem okG {x qual : Str} {st : Stmt} {f : Addr} {fd : FuncData} {N ps : List Str} {k : Nat} {sp : Sp} (F : Fun K x qual st f fd) (S : FnScope N ps (defScope st)) (ar : ∀ vs H Q E, sp vs H Q E → vs.length = ps.length)
    (body : ∀ (cdv : Value) (A : Around) (outer : List Env) (s : Shared) (H : Hp) (vs : List V) (Q : VK) (E : XK), RoomG k (A.deeper (envOfC qual (defScope st) s.heap.objs.size f cdv)) → sp vs H Q E →
      ∃ t, PSs (cxOf CX P w K mg base N qual (defScope st) f cdv A outer s H E) (defBody st) t ∧ t { nx := fun _ H' => Q .non H', rt := Q } (start N vs) H) : FnG P w K mg base CX (k + 1) f fd ps sp :=
  okGA (toA F) S ar body
theorem okG0 {x qual : Str} {st : Stmt} {f : Addr} {fd : FuncData} {N ps : List Str} {k : Nat} {sp : Sp} (F : Fun K x qual st f fd) (S : FnScope N ps (defScope st)) (ar : ∀ vs H Q E, sp vs H Q E → vs.length = ps.length)
    (body : ∀ (cdv : Value) (A : Around) (outer : List Env) (s : Shared) (H : Hp) (vs : List V) (Q : VK) (E : XK), RoomG k (A.deeper (envOfC qual (defScope st) s.heap.objs.size f cdv)) → sp vs H Q E →
      ∃ t, PSs (cxOf CX0 P w K mg base N qual (defScope st) f cdv A outer s H E).nox (defBody st) t ∧ t { nx := fun _ H' => Q .non H', rt := Q } (start N vs) H) : FnG P w K mg base CX0 (k + 1) f fd ps sp :=
  okG0A (toA F) S ar body
end
section
variable {X : Cx} {CX : CXT} {k : Nat} {f : Addr} {fd : FuncData} {ps : List Str} {sp : Sp}
theorem run_G {pins : List (Addr × Obj)} {σ : L2.St} {H : Hp} {s : Shared} {Q : VK} {E : XK} {us : List Value} {vs : List V} (F : FnG X.prog X.w X.K X.mg X.base CX k f fd ps sp) (hr : RoomG k X.A) (hb : Binds X.K fd ps [])
    (out : ∀ e s', CX X.stack H s E e s' → X.xe e s') (I : Inv X pins σ H s) (r : Vals vs us) (h : sp vs H Q E) : wpAny (model X.prog X.w) X.A (call (.ref f) us) (EP X pins σ Q) X.xe s := by
  have n := (r.length).symm.trans (F.arity _ _ _ _ h)
  have b := hb s us I.kIn (by rw [List.append_nil, n])
  rw [List.append_nil] at b
  refine wpAny_call (codeAny_mono (F.go hr I.env0 b r h) ?_)
  rintro (e | fl) s' q
  · exact out e s' q
  · match fl, q with
    | .ret u, q => exact I.after q
/-- a def and its promise, by its name -/
structure Dn (P : Program) (w : World) (K : PySem.W.Frag) (mg : Str → Option Value) (base : Heap) (k : Nat) (x : Str) (ps : List Str) (sp : Sp) : Prop where
  ex : ∃ f fd, FnG P w K mg base CX0 k f fd ps sp ∧ PySem.W.keepIn K (.ref f) = true ∧ mg x = some (.ref f) ∧ Binds K fd ps []
/-- .. that may raise -/
structure Dx (P : Program) (w : World) (K : PySem.W.Frag) (mg : Str → Option Value) (base : Heap) (k : Nat) (x : Str) (ps : List Str) (sp : Sp) : Prop where
  ex : ∃ f fd, FnG P w K mg base (L2.CX P w) k f fd ps sp ∧ PySem.W.keepIn K (.ref f) = true ∧ mg x = some (.ref f) ∧ Binds K fd ps []
theorem Df.ok {P : Program} {w : World} {K : PySem.W.Frag} {mg : Str → Option Value} {base : Heap} {x : Str} {st : Stmt} (D : Df K mg x st ps)
    (h : ∀ f fd, Fun K x x st f fd → FnG P w K mg base CX0 k f fd ps sp) : Dn P w K mg base k x ps sp := by
  obtain ⟨f, fd, F, m, b⟩ := D.ex
  exact ⟨f, fd, h f fd F, F.kp, m, b⟩
theorem Df.okX {P : Program} {w : World} {K : PySem.W.Frag} {mg : Str → Option Value} {base : Heap} {x : Str} {st : Stmt} (D : Df K mg x st ps)
    (h : ∀ f fd, Fun K x x st f fd → FnG P w K mg base (L2.CX P w) k f fd ps sp) : Dx P w K mg base k x ps sp := by
  obtain ⟨f, fd, F, m, b⟩ := D.ex
  exact ⟨f, fd, h f fd F, F.kp, m, b⟩
variable {x : Str} {p pos : Pos} {e : Expr} {es : List Expr} {t : TA}
theorem pe_cD (D : Dn X.prog X.w X.K X.mg X.base k x ps sp) (hr : RoomG k X.A) (hg : Gl X x) (ha : PA X (e :: es) t) (hdb : (x == ("__debug__" : Str)) = false := by decide)
    (he : starEach (e :: es) X.env = (false, eval e X.env) :: starEach es X.env := by rfl) (hpl : (backTo pos (starEach es X.env)).any (·.1) = false := by rfl) : PE X (.Call (.Name x p) (e :: es) [] pos) (tCall sp [] E0 t) := by
  obtain ⟨f, fd, F, hk, hm, hb⟩ := D.ex
  refine ⟨fun pins s σ H Q I h => wpAny_Call_Name_kw (ld_glob I hg hm (PySem.W.callWith_K (h₀ := X.base) I.ok.mod.kin hk (thn (ha.run pos pins s σ H _ I h) fun us s1 ⟨vs, H1, I1, r, q⟩ => ⟨I1.kIn, ?_⟩) he hpl) hdb)⟩
  have q' : sp vs H1 Q E0 := by
    have z : sp (vs ++ []) H1 Q E0 := q
    rw [List.append_nil] at z
    exact z
  exact run_G F hr hb (fun _ _ z => z.elim) I1 r q'
theorem pe_cD0 (D : Dn X.prog X.w X.K X.mg X.base k x ps sp) (hr : RoomG k X.A) (hg : Gl X x) (hdb : (x == ("__debug__" : Str)) = false := by decide) : PE X (.Call (.Name x p) [] [] pos) (tCall sp [] E0 tNil) := by
  obtain ⟨f, fd, F, hk, hm, hb⟩ := D.ex
  refine ⟨fun pins s σ H Q I h => wpAny_Call_Name_kw (ld_glob I hg hm (PySem.W.callWith_K0 I.kIn hk (run_G (us := []) F hr hb (fun _ _ z => z.elim) I .nil h)) hdb)⟩
/-- a def with defaults: dvs fill up -/
structure Dfd (K : PySem.W.Frag) (mg : Str → Option Value) (x : Str) (st : Stmt) (ps : List Str) (dvs : List V) : Prop where
  ex : ∃ (f : Addr) (fd : FuncData) (ds : List Value), FunA K x x st f fd ∧ PySem.W.keepIn K (.ref f) = true ∧ mg x = some (.ref f) ∧ Binds K fd ps ds ∧ Vals dvs ds
theorem Dfd.of {K : PySem.W.Frag} {mg : Str → Option Value} {x : Str} {st : Stmt} {ps : List Str} {dvs : List V} {f T : Addr} {oc : Value} {od an : Option Addr} {osl : Array (Option Value)} {kV doc pm cdv ct : Value} {o : Obj} {its : List Value} {n m : Nat}
    (l : K.lookup f = some ⟨oc, od, .func (PySem.W.fnOf x x (defArgs st) (defBody st) (defScope st) (.ref T) kV doc pm an cdv ct), osl⟩) (c : PySem.W.codeIn K cdv x = true) (k : PySem.W.keepIn K (.ref f) = true) (mx : mg x = some (.ref f))
    (lT : K.lookup T = some o) (oT : o.data = .seq its.toArray m) (rT : Vals dvs its) (hn : n + dvs.length = ps.length)
    (h : ∀ (us : List Value), us.length = n → ∃ kk, bindArgs (PySem.W.fnOf x x (defArgs st) (defBody st) (defScope st) (.ref T) kV doc pm an cdv ct) ⟨us, []⟩ = seqItems? (.ref T) >>= kk ∧ kk (some its.toArray) = pure (ps.zip (us ++ its))) : Dfd K mg x st ps dvs := by
  refine ⟨f, _, its, ⟨⟨_, _, _, _, _, _, _, _, _, _, rfl, l, c⟩⟩, k, mx, fun s us X hlen => ?_, rT⟩
  have l1 := rT.length
  have l2 : us.length = n := by
    rw [List.length_append] at hlen
    omega
  obtain ⟨kk, e1, e2⟩ := h us l2
  refine BindsTo.of_looks fun M => ?_
  rw [e1]
  exact looks_items X lT oT (.of_pure e2)
/-- .. all parameters given -/
theorem Dfd.ofAll {K : PySem.W.Frag} {mg : Str → Option Value} {x : Str} {st : Stmt} {ps : List Str} {f T : Addr} {oc : Value} {od an : Option Addr} {osl : Array (Option Value)} {kV doc pm cdv ct : Value} {o : Obj} {its : List Value} {n m : Nat}
    (l : K.lookup f = some ⟨oc, od, .func (PySem.W.fnOf x x (defArgs st) (defBody st) (defScope st) (.ref T) kV doc pm an cdv ct), osl⟩) (c : PySem.W.codeIn K cdv x = true) (k : PySem.W.keepIn K (.ref f) = true) (mx : mg x = some (.ref f))
    (lT : K.lookup T = some o) (oT : o.data = .seq its.toArray m) (hn : n = ps.length)
    (h : ∀ (us : List Value), us.length = n → ∃ kk, bindArgs (PySem.W.fnOf x x (defArgs st) (defBody st) (defScope st) (.ref T) kV doc pm an cdv ct) ⟨us, []⟩ = seqItems? (.ref T) >>= kk ∧ kk (some its.toArray) = pure (ps.zip us)) : Dfd K mg x st ps [] := by
  refine ⟨f, _, [], ⟨⟨_, _, _, _, _, _, _, _, _, _, rfl, l, c⟩⟩, k, mx, fun s us X hlen => ?_, .nil⟩
  have l2 : us.length = n := by
    rw [List.append_nil] at hlen
    omega
  obtain ⟨kk, e1, e2⟩ := h us l2
  refine BindsTo.of_looks fun M => ?_
  rw [e1, List.append_nil]
  exact looks_items X lT oT (.of_pure e2)
/-- .. and its promise -/
structure DnD (P : Program) (w : World) (K : PySem.W.Frag) (mg : Str → Option Value) (base : Heap) (k : Nat) (x : Str) (ps : List Str) (dvs : List V) (sp : Sp) : Prop where
  ex : ∃ (f : Addr) (fd : FuncData) (ds : List Value), FnG P w K mg base CX0 k f fd ps sp ∧ PySem.W.keepIn K (.ref f) = true ∧ mg x = some (.ref f) ∧ Binds K fd ps ds ∧ Vals dvs ds
theorem Dfd.ok {P : Program} {w : World} {K : PySem.W.Frag} {mg : Str → Option Value} {base : Heap} {x : Str} {st : Stmt} {dvs : List V} (D : Dfd K mg x st ps dvs)
    (h : ∀ f fd, FunA K x x st f fd → FnG P w K mg base CX0 k f fd ps sp) : DnD P w K mg base k x ps dvs sp := by
  obtain ⟨f, fd, ds, F, kp, m, b, d⟩ := D.ex
  exact ⟨f, fd, ds, h f fd F, kp, m, b, d⟩
theorem run_Gd {pins : List (Addr × Obj)} {σ : L2.St} {H : Hp} {s : Shared} {Q : VK} {E : XK} {us ds : List Value} {vs dvs : List V} (F : FnG X.prog X.w X.K X.mg X.base CX k f fd ps sp) (hr : RoomG k X.A) (hb : Binds X.K fd ps ds) (hd : Vals dvs ds)
    (out : ∀ e s', CX X.stack H s E e s' → X.xe e s') (I : Inv X pins σ H s) (r : Vals vs us) (h : sp (vs ++ dvs) H Q E) : wpAny (model X.prog X.w) X.A (call (.ref f) us) (EP X pins σ Q) X.xe s := by
  have r2 : Vals (vs ++ dvs) (us ++ ds) := r.append hd
  have n : (us ++ ds).length = ps.length := by rw [← r2.length]; exact F.arity _ _ _ _ h
  refine wpAny_call (codeAny_mono (F.go hr I.env0 (hb s us I.kIn n) r2 h) ?_)
  rintro (e | fl) s' q
  · exact out e s' q
  · match fl, q with
    | .ret u, q => exact I.after q
theorem pe_cDd {dvs : List V} (D : DnD X.prog X.w X.K X.mg X.base k x ps dvs sp) (hr : RoomG k X.A) (hg : Gl X x) (ha : PA X (e :: es) t) (hdb : (x == ("__debug__" : Str)) = false := by decide)
    (he : starEach (e :: es) X.env = (false, eval e X.env) :: starEach es X.env := by rfl) (hpl : (backTo pos (starEach es X.env)).any (·.1) = false := by rfl) : PE X (.Call (.Name x p) (e :: es) [] pos) (tCall sp dvs E0 t) := by
  obtain ⟨f, fd, ds, F, hk, hm, hb, hd⟩ := D.ex
  refine ⟨fun pins s σ H Q I h => wpAny_Call_Name_kw (ld_glob I hg hm (PySem.W.callWith_K (h₀ := X.base) I.ok.mod.kin hk (thn (ha.run pos pins s σ H _ I h) fun us s1 ⟨vs, H1, I1, r, q⟩ => ⟨I1.kIn, ?_⟩) he hpl) hdb)⟩
  exact run_Gd F hr hb hd (fun _ _ z => z.elim) I1 r q
/-- a call within a try: what is raised is wished at the slots -/
theorem pe_cX {E : L2.St → XK} (D : Dx X.prog X.w X.K X.mg X.base k x ps sp) (hr : RoomG k X.A) (hg : Gl X x) (hx : ∀ σ, PassesAt (L2.CX X.prog X.w) X σ (E σ)) (ha : PA X (e :: es) t) (hdb : (x == ("__debug__" : Str)) = false := by decide)
    (he : starEach (e :: es) X.env = (false, eval e X.env) :: starEach es X.env := by rfl) (hpl : (backTo pos (starEach es X.env)).any (·.1) = false := by rfl) : PE X (.Call (.Name x p) (e :: es) [] pos) (tCallS sp E t) := by
  obtain ⟨f, fd, F, hk, hm, hb⟩ := D.ex
  exact ⟨fun pins s σ H Q I h => wpAny_Call_Name_kw (ld_glob I hg hm (PySem.W.callWith_K (h₀ := X.base) I.ok.mod.kin hk (thn (ha.run pos pins s σ H _ I h) fun us s1 ⟨vs, H1, I1, r, q⟩ =>
    ⟨I1.kIn, run_G F hr hb (fun e s' z => hx σ pins H1 s1 e s' I1 z) I1 r q⟩) he hpl) hdb)⟩
/-- repr of what is data -/
def rRepr (K : PySem.W.Frag) : List V → Hp → VK → Prop := fun xs H Q => ∃ (x : V) (d : PyData), xs = [x] ∧ Dp K H x d ∧ d.showable = true ∧ d.depth ≤ 60 ∧ d.shown.length ≤ sizeLine ∧ Q (.str d.shown) H
mutual
theorem dp_noDict {K : PySem.W.Frag} {H : Hp} : ∀ (d : PyData) (x : V), Dp K H x d → d.hasDict = false
  | .none, _, _ => rfl
  | .bool _, _, _ => rfl
  | .int _, _, _ => rfl
  | .str _, _, _ => rfl
  | .list ds, _, h => by
    cases h with
    | lst _ ha => simpa [PyData.hasDict] using dp_noDicts ds _ ha
  | .tuple ds, _, h => by
    cases h with
    | tup _ ha => simpa [PyData.hasDict] using dp_noDicts ds _ ha
  | .dict _, _, h => by cases h
theorem dp_noDicts {K : PySem.W.Frag} {H : Hp} : ∀ (ds : List PyData) (xs : List V), DpAll K H xs ds → PyData.hasDictAll ds = false
  | [], _, _ => by simp [PyData.hasDictAll]
  | d :: ds, _, h => by
    cases h with
    | cons a b => simp [PyData.hasDictAll, dp_noDict d _ a, dp_noDicts ds _ b]
end
theorem reprK {K : PySem.W.Frag} (hr : RoomG k X.A) (eK : X.K = K := by rfl) : CallR X (.builtin "repr") (rRepr K) := by
  cases eK
  intro pins s σ H xs us Q I r h
  obtain ⟨x, d, rfl, hd, hs, hdep, hz, q⟩ := h
  obtain ⟨u, rfl, rx⟩ := vals1 r
  obtain ⟨as, rd⟩ := Dp.reads I d x u hd rx
  have hu := hr.units
  have nd := dp_noDict d x hd
  cases hd with
  | non => cases rx; exact PySem.P.repr_of_none ⟨.str _, H, I.tok _, ⟨_, rfl⟩, q⟩
  | bl b => cases rx; exact PySem.P.repr_of_bool ⟨.str _, H, I.tok _, ⟨_, rfl⟩, q⟩
  | int i => obtain ⟨t, rfl⟩ := rx; exact PySem.P.repr_of_int (of_decide_eq_true (by simpa [PyData.showable] using hs)) ⟨.str _, H, I.tok _, ⟨_, rfl⟩, q⟩
  | str z => obtain ⟨t, rfl⟩ := rx; exact PySem.P.repr_of_str ⟨.str _, H, I.tok _, ⟨_, rfl⟩, q⟩ hz
  | lst hq ha =>
    cases rx
    refine repr_of_reads' rd hs (PyData.noDict_hsm nd) hr.idle (by omega) (fun _ _ z => z) (fun h' u tk hk => ⟨.str _, H, I.kept hk, ⟨_, rfl⟩, q⟩) hz
  | tup hq ha =>
    cases rx
    refine repr_of_reads' rd hs (PyData.noDict_hsm nd) hr.idle (by omega) (fun _ _ z => z) (fun h' u tk hk => ⟨.str _, H, I.kept hk, ⟨_, rfl⟩, q⟩) hz
end
end Toy
namespace Toy
open PySem PySem.Spec PyProof.Rows L2
/-- what was tracked stays, but for one object -/
def But (p : Addr) (H H' : Hp) : Prop := ∀ b o, b ≠ p → H b = some o → H' b = some o
theorem But.refl {p : Addr} {H : Hp} : But p H H := fun _ _ _ h => h
theorem But.trans {p : Addr} {H H1 H2 : Hp} (a : But p H H1) (b : But p H1 H2) : But p H H2 := fun c o n h => b c o n (a c o n h)
theorem But.free {p : Addr} {H H' : Hp} (e : But p H H') {l : Addr} (n : l ≠ p) (h : H' l = Option.none) : H l = Option.none := by
  cases q : H l with
  | none => rfl
  | some o =>
    rw [e l o n q] at h
    cases h
theorem same_but {p : Addr} {H H' : Hp} (a : Same H H') : But p H H' := fun c o _ h => a c o h
theorem But.upd {p : Addr} {H : Hp} {o : HO} : But p H (upd H p o) := fun b u n h => by rw [upd_ne n]; exact h
theorem same_new {H : Hp} {p : Addr} (h : H p = none) (o : HO) : Same H (upd H p o) := fun b u q => by rw [upd_ne (ne_of_none q h)]; exact q
theorem but_tup {p : Addr} {K : PySem.W.Frag} {H H' : Hp} {a : Addr} {xs ys : List V} (e : But p H H') (hp : H p = some (.lst ys)) (h : SqT K H a xs) : SqT K H' a xs := by
  rcases h with (h | ⟨o, h⟩) | h
  · exact .inl (.inl (e _ _ (ne_of h hp (by intro z; cases z)) h))
  · exact .inl (.inr ⟨o, e _ _ (ne_of h hp (by intro z; cases z)) h⟩)
  · exact .inr h
theorem same_tup {K : PySem.W.Frag} {H H' : Hp} {a : Addr} {xs : List V} (e : Same H H') (h : SqT K H a xs) : SqT K H' a xs := by
  rcases h with (h | ⟨o, h⟩) | h
  · exact .inl (.inl (e _ _ h))
  · exact .inl (.inr ⟨o, e _ _ h⟩)
  · exact .inr h
/-- the script stays -/
theorem but_seq {p : Addr} {K : PySem.W.Frag} {H H' : Hp} {a : Addr} {xs : List V} (e : But p H H') (n : a ≠ p) (h : SqL K H a xs) : SqL K H' a xs := by
  rcases h with (h | ⟨o, h⟩) | h
  · exact .inl (.inl (e _ _ n h))
  · exact .inl (.inr ⟨o, e _ _ n h⟩)
  · exact .inr h
theorem small {n : Nat} (h : n ≤ 1000) : n ≤ sizeLine := Nat.le_of_lt (small1000 h)
theorem log_lt {i : Int} {n : Nat} (h0 : 0 < n) (h : i.natAbs < 2 ^ n) : i.natAbs.log2 < n := PySem.Flt.log2_lt_of h0 h
theorem divp_small {i j : Int} (hj : 0 < j) (h : j < 2 ^ 8000) : CDivP i j := by
  refine ⟨hj, PyProof.noPylong_of_log2 ?_⟩
  exact Nat.lt_trans (log_lt (n := 8000) (by decide) (by omega)) (by decide)
end Toy
namespace Toy
open PySem PySem.Spec PyProof.Rows L2
theorem ifT {c : Bool} {A B : Prop} (hc : c = true) (h : A) : if c = true then A else B := by rw [if_pos hc]; exact h
theorem ifF {c : Bool} {A B : Prop} (hc : c = false) (h : B) : if c = true then A else B := by rw [hc]; exact iteF h
theorem pj {j : Int} (h : decide ((0 : Int) < j) = true := by decide) : 0 < j := of_decide_eq_true h
theorem sz {xs : List V} (h : Nat.ble xs.length 1000 = true := by rfl) : xs.length ≤ sizeLine := small (Nat.le_of_ble_eq_true h)
theorem but_same {p : Addr} {H H1 H2 : Hp} (n : H p = none) (a : Same H H1) (b : But p H1 H2) : Same H H2 := fun c o h => b c o (ne_of_none h n) (a c o h)
/-- two ways of a value meet -/
theorem ifE {ta tb : TE} {σ : L2.St} {H : Hp} {Q : VK} {b : Bool} (R : V → Hp → Prop) (h : ∀ v H', R v H' → Q v H') (h1 : b = true → ∀ Q' : VK, (∀ v H', R v H' → Q' v H') → ta σ H Q') (h2 : b = false → ∀ Q' : VK, (∀ v H', R v H' → Q' v H') → tb σ H Q') :
    if b = true then ta σ H Q else tb σ H Q := by
  cases b with
  | true => exact iteT (h1 rfl Q h)
  | false => exact iteF (h2 rfl Q h)
theorem mulx {i j : Int} (a b : Nat) (ha : i.natAbs < 2 ^ a) (hb : j.natAbs < 2 ^ b) (h : a + b ≤ 134217728 := by decide) : CMulX i j := mulx_ok ha hb h
end Toy
namespace Toy
open PySem PySem.Spec PyProof.Rows L2
theorem qi {Q : VK} {H : Hp} {a b : Int} (q : Q (.int a) H) (e : a = b) : Q (.int b) H := e ▸ q
end Toy
namespace Toy
open PySem PySem.Spec PyProof.Rows L2
/-- the written part by its letter -/
theorem kk {α : Sort _} {P : α → Prop} {F : PySem.W.Frag → α} {K0 K : PySem.W.Frag} (h : P (F K0)) (e : K0 = K := by rfl) : P (F K) := e ▸ h
def rLen (K : PySem.W.Frag) : List V → Hp → VK → Prop := fun xs H Q => ∃ p ys, xs = [.ref p] ∧ (SqL K H p ys ∨ SqT K H p ys) ∧ Q (.int ys.length) H
theorem lenK {X : Cx} {K : PySem.W.Frag} (e : X.K = K := by rfl) : CallR X (.builtin "len") (rLen K) := by cases e; exact call_len_seq
def rLstOf (K : PySem.W.Frag) : List V → Hp → VK → Prop := fun xs H Q => ∃ p ys, xs = [.ref p] ∧ (SqL K H p ys ∨ SqT K H p ys) ∧ ∀ l, H l = none → Q (.ref l) (upd H l (.lst ys))
theorem lstOfK {X : Cx} {K : PySem.W.Frag} (e : X.K = K := by rfl) : CallR X (.type "list") (rLstOf K) := by cases e; exact call_list_of
def rTupOf (K : PySem.W.Frag) : List V → Hp → VK → Prop := fun xs H Q => ∃ p ys, xs = [.ref p] ∧ ((SqL K H p ys ∧ ∀ l, H l = none → Q (.ref l) (upd H l (.tup ys))) ∨ (SqT K H p ys ∧ Q (.ref p) H))
theorem tupOfK {X : Cx} {K : PySem.W.Frag} (e : X.K = K := by rfl) : CallR X (.type "tuple") (rTupOf K) := by cases e; exact call_tuple_of
theorem dec_ne {α : Type} [DecidableEq α] {a b : α} (h : a = b) : (!decide (a = b)) = false := by rw [decide_eq_true h] <;> rfl
end Toy
namespace Toy
open PySem PySem.Spec PyProof.Rows L2
/-- a tuple of the written part; a tuple that never changes -/
def KTup (K : PySem.W.Frag) (a : Addr) (xs : List V) : Prop := ∃ (o : Obj) (its : Array Value) (n : Nat), K.lookup a = some o ∧ o.cls = .type "tuple" ∧ o.data = .seq its n ∧ its.size ≤ sizeLine ∧ Vals xs its.toList
def TupAt (K : PySem.W.Frag) (H : Hp) (a : Addr) (xs : List V) : Prop := H a = some (.tup xs) ∨ KTup K a xs
theorem TupAt.sq {K : PySem.W.Frag} {H : Hp} {a : Addr} {xs : List V} (h : TupAt K H a xs) : SqT K H a xs := by
  rcases h with h | h
  · exact SqT.of h
  · exact .inr h
theorem TupAt.ty {K : PySem.W.Frag} {H : Hp} {a : Addr} {xs : List V} (h : TupAt K H a xs) : TyX K H (.ref a) (.type "tuple") := by
  rcases h with h | ⟨o, its, n, h1, h2, _⟩
  · exact .base (.tup h)
  · exact .kTuple h1 h2
theorem TupAt.same {K : PySem.W.Frag} {H H' : Hp} {a : Addr} {xs : List V} (e : Same H H') (h : TupAt K H a xs) : TupAt K H' a xs := h.imp (e _ _) id
theorem TupAt.but {K : PySem.W.Frag} {H H' : Hp} {a p : Addr} {xs ys : List V} (e : But p H H') (hp : H p = some (.lst ys)) (h : TupAt K H a xs) : TupAt K H' a xs := h.imp (fun h => e _ _ (ne_of h hp (by intro z; cases z)) h) id
end Toy
namespace Toy
open PySem PySem.Spec PyProof.Rows L2
theorem ints_dp {K : PySem.W.Frag} {H : Hp} : ∀ ns : List Int, DpAll K H (ns.map V.int) (ns.map PyData.int)
  | [] => .nil
  | n :: r => .cons (.int n) (ints_dp r)
theorem ints_sh (ns : List Int) : SeqAt.shaped (.list (ns.map PyData.int)) = true := PySem.W.ke_shaped_ints ns
theorem ints_refl (ns : List Int) : PyData.eqv (.list (ns.map PyData.int)) (.list (ns.map PyData.int)) = true := SeqAt.eqv_refl _ (SeqAt.canLay_of_shaped (ints_sh ns))
theorem lst_dp {K : PySem.W.Frag} {H : Hp} {a : Addr} {ns : List Int} (h : SqL K H a (ns.map V.int)) : Dp K H (.ref a) (.list (ns.map PyData.int)) := .lst h (ints_dp ns)
theorem tupI_dp {K : PySem.W.Frag} {H : Hp} {a : Addr} {ns : List Int} (h : SqT K H a (ns.map V.int)) : Dp K H (.ref a) (.tuple (ns.map PyData.int)) := .tup h (ints_dp ns)
theorem tupI_sh (ns : List Int) : SeqAt.shaped (.tuple (ns.map PyData.int)) = true := ints_sh ns
theorem tupI_refl (ns : List Int) : PyData.eqv (.tuple (ns.map PyData.int)) (.tuple (ns.map PyData.int)) = true := SeqAt.eqv_refl _ (SeqAt.canLay_of_shaped (tupI_sh ns))
theorem cut_map (us : List Int) (lo hi : Option Int) : ∃ ws : List Int, cutV (us.map V.int) lo hi = ws.map V.int ∧ ws.length ≤ us.length ∧ ∀ x ∈ ws, x ∈ us := by
  refine ⟨(us.drop (HT.sIx (us.map V.int).length 0 lo)).take (HT.sIx (us.map V.int).length (us.map V.int).length hi - HT.sIx (us.map V.int).length 0 lo), ?_, ?_, fun x hx => List.mem_of_mem_drop (List.mem_of_mem_take hx)⟩
  · unfold cutV; rw [List.map_take, List.map_drop]
  · rw [List.length_take, List.length_drop]; omega
theorem at_map {us : List Int} {i : Nat} {y : V} (h : (us.map V.int)[i]? = some y) : ∃ x : Int, y = .int x ∧ us[i]? = some x := by
  rw [List.getElem?_map] at h
  cases e : us[i]? with
  | none => rw [e] at h; cases h
  | some x => rw [e] at h; exact ⟨x, (Option.some.inj h).symm, rfl⟩
end Toy
namespace Toy
open PySem PySem.Spec PyProof.Rows L2
/-- the heap in which the script alone stands, unless the text's own part holds it -/
def scriptH (K : PySem.W.Frag) (a : Addr) (o : Obj) (ns : List Int) : Hp := fun c => if (K.lookup a).isNone = true ∧ c = a then some (.frz o (.lst (ns.map V.int))) else none
theorem scriptH_none {K : PySem.W.Frag} {a b : Addr} {o : Obj} {ns : List Int} : scriptH K a o ns b = none ∨ (b = a ∧ K.lookup a = none ∧ scriptH K a o ns b = some (.frz o (.lst (ns.map V.int)))) := by
  unfold scriptH
  by_cases c : (K.lookup a).isNone = true ∧ b = a
  · exact .inr ⟨c.2, Option.isNone_iff_eq_none.mp c.1, if_pos c⟩
  · exact .inl (if_neg c)
theorem law_G {P : Program} {w : World} {K : PySem.W.Frag} {mg mb : Str → Option Value} {k : Nat} {fa a : Addr} {fd : FuncData} {x : Str} {sp : Sp} {s : Shared} {vs : List Value} {ns : List Int}
    (KX : K.In s.heap) (hns : s.heap.Ns mainGlobals mg) (hb : s.heap.Ns builtinsNs mb) (hbb : ∀ x : Str, x ≠ "__name__" → mb x = bootBuiltins x) (hlim : s.heap.NoLimit) (hg : s.gens = #[])
    (ha : s.heap.get? a = some { cls := .type "list", data := .seq vs.toArray }) (hi : IntsAre vs ns) (hl : ns.length ≤ sizeLine) (hr : Room k PySem.callerA)
    (F : ∀ base : Heap, K.In base → base.Ns mainGlobals mg → FnG P w K mg base CX0 k fa fd [x] sp) (hbind : ∀ (s : Shared) (u : Value), BindsTo s fd ⟨[u], []⟩ [(x, u)])
    (hsp : ∀ H : Hp, SqL K H a (ns.map V.int) → sp [.ref a] H (fun v _ => v = .bl true) fun _ _ _ => False) :
    codeAny (model P w) PySem.callerA (.call (.ref fa) ⟨[.ref a], []⟩) (fun r s' => r = .ok (.ret (.bool true)) ∧ OldK s.heap s'.heap ∧ s'.os = s.os ∧ AllBare s'.gens) s := by
  let H : Hp := scriptH K a { cls := .type "list", data := .seq vs.toArray } ns
  have hH : ∀ b, H b = none ∨ (b = a ∧ K.lookup a = none ∧ H b = some (.frz { cls := .type "list", data := .seq vs.toArray } (.lst (ns.map V.int)))) := fun b => scriptH_none
  have rv := vals_ints hi
  have hok : HOk P w H s.heap := by
    intro b u e
    rcases hH b with z | ⟨rfl, _, z⟩
    · rw [z] at e; cases e
    · rw [z] at e
      cases e
      exact ⟨ha, by rw [List.length_map]; exact hl, vs, _, rv, ha⟩
  have hS : SqL K H a (ns.map V.int) := by
    cases q : K.lookup a with
    | none => exact .inl (.inr ⟨_, show scriptH K a _ ns a = _ from if_pos ⟨by rw [q] <;> rfl, rfl⟩⟩)
    | some o =>
      have e := KX a o q
      rw [ha] at e
      cases e
      exact .inr ⟨_, vs.toArray, _, q, rfl, rfl, rfl, by rw [List.size_toArray, hi.length]; exact hl, by simpa using rv⟩
  -- what is no list is not the script
  have notA : ∀ {b : Addr} {o : Obj} {es : Array DictEntry} {ep : Nat}, s.heap.get? b = some o → o.data = .dict es ep → H b = none := by
    intro b o es ep e d
    rcases hH b with z | ⟨rfl, _, _⟩
    · exact z
    · rw [ha] at e
      cases e
      cases (show Data.seq vs.toArray _ = Data.dict es ep from d)
  have ns' : ∀ {b : Addr} {m : Str → Option Value}, s.heap.Ns b m → (hidT s.heap H).Ns b m := by
    rintro b m ⟨o, es, ep, e, d, r⟩
    exact ⟨o, es, ep, hidT_get e (notA e d), d, r⟩
  have kin' : K.In (hidT s.heap H) := by
    intro b o e
    refine hidT_get (KX b o e) ?_
    rcases hH b with z | ⟨rfl, q, _⟩
    · exact z
    · rw [q] at e; cases e
  have md : Mod K mg (hidT s.heap H) := ⟨kin', ns' hns, ⟨mb, ns' hb, hbb⟩, hlim.imp fun _ z => ⟨ns' z.1, z.2⟩⟩
  have e0 : Env0 P w K mg (hidT s.heap H) PySem.callerA [] s H := ⟨rfl, md, fun _ _ z => of_hidT z, Nat.le_of_eq (hidT_size _ _), trivial, (by intro b z; cases z), hok, .of_eq hg⟩
  refine codeAny_mono ((F _ kin' (ns' hns)).go (us := [.ref a]) (vs := [.ref a]) ⟨hr, rfl⟩ e0 (hbind s (.ref a)) (.cons rfl .nil) (hsp H hS)) ?_
  rintro (e | fl) s' q
  · exact q.elim
  match fl, q with
  | .ret u, ⟨v, H', os, bare, un, ok', r', q⟩ =>
    have q' : v = .bl true := q
    subst q'
    obtain rfl : u = Value.bool true := r'
    refine ⟨rfl, OldK.of_keep fun b o e => ?_, os, bare⟩
    rcases hH b with z | ⟨_, _, z⟩
    · exact un.keep b o e z (by intro y; cases y) (by intro y; cases y)
    · have z1 := (hok b _ z).1
      have z2 := (ok' b _ (un.frzs b _ _ z)).1
      rw [e] at z1
      cases z1
      exact z2
theorem walk_G {l : PySem.W.OpenLaw} {n k : Nat} {q : Program} {loose : List Str} {XP : (Str → Option Value) → Heap → Prop} {YP : World → Heap → Prop} {d : DefRec} {K : Params → PySem.W.Frag} {sp : PySem.W.Frag → Sp} {x : Str}
    (hn : l.most = some n) (hn2 : n ≤ sizeLine) (hdf : d.params.defaults = []) (hr : Room k PySem.callerA) (hY : ∀ (w : World) (h : Heap), YP w h → (K w.params).In h)
    (F : ∀ (w : World) (mg : Str → Option Value) (fa : Addr) (h : Heap), (K w.params).In h → h.Ns mainGlobals mg → mg d.name = some (.ref fa) →
      ∃ fd : FuncData, (∀ (s : Shared) (u : Value), BindsTo s fd ⟨[u], []⟩ [(x, u)]) ∧ ∀ base : Heap, (K w.params).In base → base.Ns mainGlobals mg → FnG l.prog w (K w.params) mg base CX0 k fa fd [x] (sp (K w.params)))
    (hsp : ∀ (K : PySem.W.Frag) (H : Hp) (a : Addr) (ns : List Int), ns.length ≤ n → SqL K H a (ns.map V.int) → sp K [.ref a] H (fun v _ => v = .bl true) fun _ _ _ => False) :
    PySem.W.WalkO q loose XP YP l.row.toRowW d [] (fun f vs => PySem.call f vs) :=
  Att.attach_call hn hdf fun w s0 s1 mg mb fa o pm cd doc a vs ns G Y ho hd hcd hmg hobj hints hlen hg => by
    have KX := hY w _ Y
    obtain ⟨fd, hbd, hF⟩ := F w mg fa _ KX G.T.g hmg
    exact law_G KX G.T.g G.T.b G.T.builtins G.T.nolimit hg hobj hints (Nat.le_trans hlen hn2) hr hF hbd fun H hS => hsp _ H a ns hlen hS
end Toy
namespace Toy
open PySem PySem.Spec PyProof.Rows L2
/-! ### how long a shown datum is -/
mutual
def cst : PyData → Nat
  | .none => 5
  | .bool _ => 5
  | .int _ => 1921
  | .str x => (reprText x).length
  | .list xs => csts xs + 4
  | .tuple xs => csts xs + 4
  | .dict _ => 0
def csts : List PyData → Nat
  | [] => 0
  | x :: xs => cst x + 4 + csts xs
end
theorem tupT_len (ts : List Str) : (tupleText ts).length ≤ piled ts + 4 := by
  unfold tupleText
  rw [strLen_append, strLen_append]
  have e1 : ((("(" : String) : Str)).length = 1 := rfl
  have e3 : (((if ts.length == 1 then ",)" else ")" : String) : Str)).length ≤ 2 := by split <;> decide +kernel
  by_cases h : ts = []
  · subst h; decide +kernel
  · have := join_length_add ts h; omega
theorem txtFrom_len : ∀ (ts : List Str) (k : Nat) (acc : Str), (textFrom k acc ts).length ≤ acc.length + piled ts
  | [], k, acc => Nat.le_add_right _ _
  | t :: r, k, acc => by
    have h := txtFrom_len r (k + 1) (acc ++ (if k > 0 then ", " else "" : String) ++ t)
    have e : (acc ++ (if k > 0 then ", " else "" : String) ++ t).length = acc.length + (if k > 0 then 2 else 0) + t.length := by
      rw [strLen_append, strLen_append]
      split <;> rfl
    rw [e] at h
    rw [piled_cons]
    have h2 : (textFrom k acc (t :: r)).length = (textFrom (k + 1) (acc ++ (if k > 0 then ", " else "" : String) ++ t) r).length := rfl
    rw [h2]
    have e2 : (if k > 0 then 2 else 0) ≤ 2 := by split <;> omega
    omega
theorem lstT_len (ts : List Str) : (listText ts).length ≤ piled ts + 4 := by
  unfold listText
  rw [strLen_append]
  have h := txtFrom_len ts 0 "["
  have e1 : ((("[" : String) : Str)).length = 1 := rfl
  have e2 : ((("]" : String) : Str)).length = 1 := rfl
  omega
mutual
theorem shown_le : ∀ d : PyData, d.showable = true → d.hasDict = false → d.shown.length ≤ cst d
  | .none, _, _ => by show (("None" : String) : Str).length ≤ 5; decide +kernel
  | .bool b, _, _ => by cases b <;> (show _ ≤ 5; decide +kernel)
  | .int i, h, _ => PyProof.Rows.int_text_len_1921 (of_decide_eq_true (by simpa [PyData.showable] using h))
  | .str x, _, _ => Nat.le_refl _
  | .list ds, h, g => by
    have h1 := showns_le ds (by simpa [PyData.showable] using h) (by simpa [PyData.hasDict] using g)
    have h2 := lstT_len (PyData.shownAll ds)
    show (listText (PyData.shownAll ds)).length ≤ csts ds + 4
    omega
  | .tuple ds, h, g => by
    have h1 := showns_le ds (by simpa [PyData.showable] using h) (by simpa [PyData.hasDict] using g)
    have h2 := tupT_len (PyData.shownAll ds)
    show (tupleText (PyData.shownAll ds)).length ≤ csts ds + 4
    omega
  | .dict _, _, g => by simp [PyData.hasDict] at g
theorem showns_le : ∀ ds : List PyData, PyData.showableAll ds = true → PyData.hasDictAll ds = false → piled (PyData.shownAll ds) ≤ csts ds
  | [], _, _ => Nat.le_refl _
  | d :: ds, h, g => by
    have h1 := shown_le d (by simp [PyData.showableAll] at h; exact h.1) (by simp [PyData.hasDictAll] at g; exact g.1)
    have h2 := showns_le ds (by simp [PyData.showableAll] at h; exact h.2) (by simp [PyData.hasDictAll] at g; exact g.2)
    show piled (d.shown :: PyData.shownAll ds) ≤ _
    rw [piled_cons]
    show _ ≤ cst d + 4 + csts ds
    omega
end
theorem shown_sz {d : PyData} (h : d.showable = true) (g : d.hasDict = false) (c : cst d ≤ 10000000) : d.shown.length ≤ sizeLine :=
  Nat.le_trans (shown_le d h g) (Nat.le_trans c (by decide))
end Toy
namespace Toy
open PySem PySem.Spec PyProof.Rows L2
/-- a list of ints grown by a part of another one -/
theorem ext_cut {L z : Addr} {ws es : List Int} {lo hi : Option Int} {H : Hp} {R : VK} (hL : H L = some (.lst (ws.map V.int))) (hz : H z = some (.lst (cutV (es.map V.int) lo hi))) (hs : ws.length + es.length ≤ 1000)
    (q : ∀ us : List Int, us.length ≤ es.length → (∀ x ∈ us, x ∈ es) → R .non (upd H L (.lst ((ws ++ us).map V.int)))) : rExtend (.ref L) [.ref z] H R := by
  obtain ⟨us, e, h1, h2⟩ := cut_map es lo hi
  rw [e] at hz
  refine ⟨L, z, _, _, rfl, rfl, hL, hz, small (by rw [List.length_map, List.length_map]; omega), ?_⟩
  have := q us h1 h2
  rw [List.map_append] at this
  exact this
theorem rep_len {n : Nat} : ((List.replicate n true).map V.bl).length = n := by rw [List.length_map, List.length_replicate]
theorem rep_snoc {n : Nat} : (List.replicate n true).map V.bl ++ [V.bl true] = (List.replicate (n + 1) true).map V.bl := by rw [List.replicate_succ', List.map_append] <;> rfl
theorem rep_all (n : Nat) : (List.replicate n true).all id = true := by rw [List.all_eq_true]; intro x hx; rw [List.mem_replicate] at hx; exact hx.2
theorem ixn {n j : Nat} (hj : j < n) : ixN n (j : Int) = some j := by
  unfold ixN
  rw [if_pos (by omega), if_pos (by omega)]
  exact congrArg some (Int.toNat_natCast j)
theorem dec_self (a : V) : decide (a = a) = true := decide_eq_true rfl
end Toy
namespace Toy
open PySem PySem.Spec PyProof.Rows L2
/-- a comprehension within a comprehension -/
theorem relabel_kept {env : Env} : ∀ {names : List (Str × NameKind)} {x : Str}, names.lookup x = some .cell ∨ names.lookup x = some .free →
    (names.map fun (n, k) => if (k == NameKind.free && env.scope.kind == .function && env.kindOf n == some .cell) then (n, NameKind.cell) else (n, k)).lookup x = some .cell ∨
    (names.map fun (n, k) => if (k == NameKind.free && env.scope.kind == .function && env.kindOf n == some .cell) then (n, NameKind.cell) else (n, k)).lookup x = some .free
  | [], _, h => by simp at h
  | (n, k) :: r, x, h => by
    have ih := @relabel_kept env r x
    show List.lookup x ((if (k == NameKind.free && env.scope.kind == .function && env.kindOf n == some .cell) = true then (n, NameKind.cell) else (n, k)) :: _) = _ ∨ List.lookup x ((if (k == NameKind.free && env.scope.kind == .function && env.kindOf n == some .cell) = true then (n, NameKind.cell) else (n, k)) :: _) = _
    cases hx : x == n with
    | true =>
      simp only [List.lookup_cons, hx] at h
      by_cases hc : (k == NameKind.free && env.scope.kind == .function && env.kindOf n == some .cell) = true
      · rw [if_pos hc]; exact .inl (by simp [List.lookup_cons, hx])
      · rw [if_neg hc]; simp only [List.lookup_cons, hx]; exact h
    | false =>
      simp only [List.lookup_cons, hx] at h
      by_cases hc : (k == NameKind.free && env.scope.kind == .function && env.kindOf n == some .cell) = true
      · rw [if_pos hc]; simp only [List.lookup_cons, hx]; exact ih h
      · rw [if_neg hc]; simp only [List.lookup_cons, hx]; exact ih h
theorem blkOk_nest {X : Cx} {s : Shared} {H : Hp} {scope1 scope : Scope} {cl : List (Str × Addr)} {C : Addr} {env : Env} {fp : List Addr} {own : List (Str × Nat)} {N : List Str} (hN : X.N = N) (h : blkC N scope1 scope own = true) :
    BlkOk (X.blk s H scope1 (compEnvC scope1 cl C env) fp).N (X.blk s H scope1 (compEnvC scope1 cl C env) fp).env.scope scope own := by
  subst hN
  obtain ⟨h1, h2, h3, h4, h5⟩ := blkOk_by h
  exact ⟨h1, h2, h3, fun y hy e => relabel_kept (h4 y hy e), h5⟩
end Toy
namespace Toy
open PySem PySem.Spec PyProof.Rows L2
/-! ### own classes -/
/-- where a name's class stands -/
def cAt (mg : Str → Option Value) (x : Str) : Addr := match mg x with | some (.ref C) => C | _ => 0
theorem cAt_eq {mg : Str → Option Value} {x : Str} {C : Addr} (h : mg x = some (.ref C)) : cAt mg x = C := by unfold cAt; rw [h]
structure ClsF (K : PySem.W.Frag) (mg : Str → Option Value) (x : Str) (fs : List Str) : Prop where
  mg_ : mg x = some (.ref (cAt mg x))
  cl : Cls K (cAt mg x)
  no : ∀ f ∈ fs, NoAttr K (cAt mg x) f
theorem ClsF.of {K : PySem.W.Frag} {mg : Str → Option Value} {x : Str} {C : Addr} {fs : List Str} (m : mg x = some (.ref C)) (c : Cls K C) (n : ∀ f ∈ fs, NoAttr K C f) : ClsF K mg x fs := by
  have e := cAt_eq m
  exact ⟨by rw [e]; exact m, by rw [e]; exact c, by rw [e]; exact n⟩
/-- a method, by its class -/
structure DfM (K : PySem.W.Frag) (C : Addr) (m q : Str) (st : Stmt) (ps : List Str) : Prop where
  ex : ∃ f fd, Fun K m q st f fd ∧ Meth K C m f ∧ Binds K fd ps []
theorem DfM.of {K : PySem.W.Frag} {mg : Str → Option Value} {x m q : Str} {st : Stmt} {ps : List Str} {f C : Addr} {oc : Value} {od an : Option Addr} {osl : Array (Option Value)} {kV doc pm cdv ct : Value} (hC : mg x = some (.ref C))
    (a : PySem.W.findIn K (.ref C) m = some (some (.ref f))) (i : PySem.W.isFn K (.ref f) = true)
    (l : K.lookup f = some ⟨oc, od, .func (PySem.W.fnOf m q (defArgs st) (defBody st) (defScope st) .none kV doc pm an cdv ct), osl⟩) (c : PySem.W.codeIn K cdv q = true) (k : PySem.W.keepIn K (.ref f) = true)
    (h : ∀ (kV doc pm : Value) (an : Option Addr) (cdv ct : Value) (us : List Value), us.length = ps.length → bindArgs (PySem.W.fnOf m q (defArgs st) (defBody st) (defScope st) .none kV doc pm an cdv ct) ⟨us, []⟩ = pure (ps.zip us)) : DfM K (cAt mg x) m q st ps := by
  rw [cAt_eq hC]
  exact ⟨_, _, fun_mk l c k, ⟨a, i, k⟩, (fun_mk l c k).binds h⟩
structure DnM (P : Program) (w : World) (K : PySem.W.Frag) (mg : Str → Option Value) (base : Heap) (C : Addr) (k : Nat) (m : Str) (ps : List Str) (sp : Sp) : Prop where
  ex : ∃ f fd, FnG P w K mg base CX0 k f fd ps sp ∧ Meth K C m f ∧ Binds K fd ps []
theorem DfM.ok {P : Program} {w : World} {K : PySem.W.Frag} {mg : Str → Option Value} {base : Heap} {C : Addr} {m q : Str} {st : Stmt} {ps : List Str} {k : Nat} {sp : Sp} (D : DfM K C m q st ps)
    (h : ∀ f fd, Fun K m q st f fd → FnG P w K mg base CX0 k f fd ps sp) : DnM P w K mg base C k m ps sp := by
  obtain ⟨f, fd, F, mt, b⟩ := D.ex
  exact ⟨f, fd, h f fd F, mt, b⟩
/-- the maker of a class -/
structure DfI (K : PySem.W.Frag) (C : Addr) (q : Str) (st : Stmt) (ps : List Str) : Prop where
  ex : ∃ f fd, Fun K "__init__" q st f fd ∧ Mk K C f ∧ Binds K fd ps []
theorem DfI.of {K : PySem.W.Frag} {mg : Str → Option Value} {x q : Str} {st : Stmt} {ps : List Str} {f C : Addr} {oc : Value} {od an : Option Addr} {osl : Array (Option Value)} {kV doc pm cdv ct : Value} (hC : mg x = some (.ref C))
    (a : PySem.W.findIn K (.ref C) "__init__" = some (some (.ref f))) (i : PySem.W.isFn K (.ref f) = true)
    (l : K.lookup f = some ⟨oc, od, .func (PySem.W.fnOf "__init__" q (defArgs st) (defBody st) (defScope st) .none kV doc pm an cdv ct), osl⟩) (c : PySem.W.codeIn K cdv q = true) (k : PySem.W.keepIn K (.ref f) = true)
    (mk : PySem.W.makesIn K C = true) (kc : PySem.W.keepIn K (.ref C) = true)
    (h : ∀ (kV doc pm : Value) (an : Option Addr) (cdv ct : Value) (us : List Value), us.length = ps.length → bindArgs (PySem.W.fnOf "__init__" q (defArgs st) (defBody st) (defScope st) .none kV doc pm an cdv ct) ⟨us, []⟩ = pure (ps.zip us)) : DfI K (cAt mg x) q st ps := by
  rw [cAt_eq hC]
  exact ⟨_, _, fun_mk l c k, ⟨mk, a, i, kc⟩, (fun_mk l c k).binds h⟩
structure DnI (P : Program) (w : World) (K : PySem.W.Frag) (mg : Str → Option Value) (base : Heap) (C : Addr) (k : Nat) (ps : List Str) (sp : Sp) : Prop where
  ex : ∃ f fd, FnG P w K mg base CX0 k f fd ps sp ∧ Mk K C f ∧ Binds K fd ps []
theorem DfI.ok {P : Program} {w : World} {K : PySem.W.Frag} {mg : Str → Option Value} {base : Heap} {C : Addr} {q : Str} {st : Stmt} {ps : List Str} {k : Nat} {sp : Sp} (D : DfI K C q st ps)
    (h : ∀ f fd, Fun K "__init__" q st f fd → FnG P w K mg base CX0 k f fd ps sp) : DnI P w K mg base C k ps sp := by
  obtain ⟨f, fd, F, mt, b⟩ := D.ex
  exact ⟨f, fd, h f fd F, mt, b⟩
theorem RoomG.make {k : Nat} {A : Around} (r : RoomG (k + 1) A) (C : Addr) (us : List Value) (kw : List (Str × Value)) : RoomG k (A.under (.builtin "type.__call__" ⟨.ref C :: us, kw⟩)) :=
  ⟨r.room.make C us kw, r.idle⟩
section
variable {X : Cx} {k : Nat} {C : Addr} {ps : List Str} {sp : Sp} {x m : Str} {p pos apos : Pos} {e o : Expr} {es : List Expr} {ta : TE} {t : TA}
theorem pe_mG {pl : Sem Bool} (D : DnM X.prog X.w X.K X.mg X.base C k m ps sp) (c : Cls X.K C) (hr : RoomG k X.A) (he : PE X o ta) (ha : PA X (e :: es) t)
    (hst : starEach (e :: es) X.env = (false, eval e X.env) :: starEach es X.env := by rfl) (hpl : (backTo pos (starEach es X.env)).any (·.1) = false := by rfl)
    (ht : eval (.Call (.Attribute o m apos) (e :: es) [] pos) X.env = (do
      let ov ← eval o X.env
      standAt apos.atName
      let (f, first) ← holding [ov] (getMethod ov m pl)
      callWith pos f first (backTo pos (starEach (e :: es) X.env)) (backToKw pos (keywordEach [] X.env))) := by rfl) :
    PE X (.Call (.Attribute o m apos) (e :: es) [] pos) (tMeth C m sp [] E0 ta t) := by
  obtain ⟨f, fd, F, hm, hb⟩ := D.ex
  refine ⟨fun pins s σ H Q I h => ?_⟩
  refine PySem.W.methodCall_KW (pl := pl) (thn (he.run pins s σ H _ I h) fun u s1 ⟨x, H1, I1, rx, a, dx, fs, ex, ea, l, q⟩ => ?_) ht
  subst ex
  obtain rfl : u = Value.ref a := rx
  refine getmeth_ok I1 ea c hm l ?_
  refine PySem.W.callWith_K (first := [.ref a]) (h₀ := X.base) I.ok.mod.kin hm.kp (thn (ha.run pos pins s1 σ H1 _ I1 q) fun us s2 ⟨vs, H2, I2, r, q2⟩ => ⟨I2.kIn, ?_⟩) hst hpl
  have q' : sp (.ref a :: vs) H2 Q E0 := by
    have z : sp (.ref a :: (vs ++ [])) H2 Q E0 := q2
    rw [List.append_nil] at z
    exact z
  exact run_G (us := .ref a :: us) (vs := .ref a :: vs) F hr hb (fun _ _ z => z.elim) I2 (.cons rfl r) q'
theorem pe_mG0 {pl : Sem Bool} (D : DnM X.prog X.w X.K X.mg X.base C k m ps sp) (c : Cls X.K C) (hr : RoomG k X.A) (he : PE X o ta)
    (ht : eval (.Call (.Attribute o m apos) [] [] pos) X.env = (do
      let ov ← eval o X.env
      standAt apos.atName
      let (f, first) ← holding [ov] (getMethod ov m pl)
      callWith pos f first (backTo pos (starEach [] X.env)) (backToKw pos (keywordEach [] X.env))) := by rfl) :
    PE X (.Call (.Attribute o m apos) [] [] pos) (tMeth C m sp [] E0 ta tNil) := by
  obtain ⟨f, fd, F, hm, hb⟩ := D.ex
  refine ⟨fun pins s σ H Q I h => ?_⟩
  refine PySem.W.methodCall_KW (pl := pl) (thn (he.run pins s σ H _ I h) fun u s1 ⟨x, H1, I1, rx, a, dx, fs, ex, ea, l, q⟩ => ?_) ht
  subst ex
  obtain rfl : u = Value.ref a := rx
  refine getmeth_ok I1 ea c hm l ?_
  exact PySem.W.callWith_K0 (first := [.ref a]) I1.kIn hm.kp (run_G (us := [.ref a]) (vs := [.ref a]) F hr hb (fun _ _ z => z.elim) I1 (.cons rfl .nil) q)
theorem run_mkG {pins : List (Addr × Obj)} {σ : L2.St} {H : Hp} {s : Shared} {Q : VK} {us : List Value} {vs : List V} {f : Addr} {fd : FuncData} (M : Mk X.K C f) (F : FnG X.prog X.w X.K X.mg X.base CX0 k f fd ps sp) (hr : RoomG (k + 1) X.A) (hb : Binds X.K fd ps [])
    (I : Inv X pins σ H s) (r : Vals vs us)
    (h : ∀ x dx, H x = none → H dx = none → dx ≠ x → sp (.ref x :: vs) (upd (upd H dx (.own x)) x (.ins C dx [])) (fun v H2 => v = .non ∧ Q (.ref x) H2) E0) :
    wpAny (model X.prog X.w) X.A (call (.ref C) us) (EP X pins σ Q) X.xe s := by
  have hq := h (s.heap.objs.size + 1) s.heap.objs.size (I.hok.fresh (Nat.le_succ _)) (I.hok.fresh (Nat.le_refl _)) (Nat.ne_of_lt (Nat.lt_succ_self _))
  have I2 := Inv.made (C := C) I
  have r2 : Vals (V.ref (s.heap.objs.size + 1) :: vs) (Value.ref (s.heap.objs.size + 1) :: us) := .cons rfl r
  have hl : (Value.ref (s.heap.objs.size + 1) :: us).length = ps.length := by
    rw [← r2.length]
    exact F.arity _ _ _ _ hq
  have b := hb { s with heap := _ } (Value.ref (s.heap.objs.size + 1) :: us) I2.kIn (by rw [List.append_nil]; exact hl)
  rw [List.append_nil] at b
  refine wpAny_call (make_map (f := f) I.kIn M.makes M.init (beq_iff_eq.mp M.fn) (codeAny_mono (F.go (hr.make C us []) (I2.env0.make C us []) b r2 hq) fun r s' hq' => ?_))
  cases r with
  | error e => exact hq'.elim
  | ok fl =>
    match fl, hq' with
    | .ret u, hq' =>
      obtain ⟨v, H', I3, rv, ev, q3⟩ := I2.after hq'
      subst ev
      exact ⟨rv, ⟨V.ref (s.heap.objs.size + 1), H', I3, rfl, q3⟩⟩
theorem pe_mkG (D : DnI X.prog X.w X.K X.mg X.base C k ps sp) (hr : RoomG (k + 1) X.A) (hg : Gl X x) (hm : X.mg x = some (.ref C)) (ha : PA X (e :: es) t) (hdb : (x == ("__debug__" : Str)) = false := by decide)
    (he : starEach (e :: es) X.env = (false, eval e X.env) :: starEach es X.env := by rfl) (hpl : (backTo pos (starEach es X.env)).any (·.1) = false := by rfl) :
    PE X (.Call (.Name x p) (e :: es) [] pos) (tMake C sp [] E0 t) := by
  obtain ⟨f, fd, F, M, hb⟩ := D.ex
  refine ⟨fun pins s σ H Q I h => ?_⟩
  refine wpAny_Call_Name_kw (ld_glob I hg hm ?_ hdb)
  refine PySem.W.callWith_K (h₀ := X.base) I.ok.mod.kin M.kp (thn (ha.run pos pins s σ H _ I h) fun us s1 ⟨vs, H1, I1, r, q⟩ => ⟨I1.kIn, ?_⟩) he hpl
  exact run_mkG M F hr hb I1 r fun x dx h1 h2 h3 => by
    have z := q x dx h1 h2 h3
    rw [List.append_nil] at z
    exact z
/-- o.f, as a target -/
def gFld (K : PySem.W.Frag) (to : TE) (f : Str) : TG := fun v σ H Q => to σ H fun x H1 => ∃ a C dx fs, x = .ref a ∧ H1 a = some (.ins C dx fs) ∧ Cls K C ∧ NoAttr K C f ∧ fs.length < 1000 ∧ Q σ (upd H1 a (.ins C dx (putF f v fs)))
theorem pg_fld {f : Str} {to : TE} (ho : PE X o to) : PG X (.Attribute o f pos) (gFld X.K to f) := by
  refine ⟨fun pins s σ H v u Q I r h => ?_⟩
  rw [assign_Attribute]
  refine wpAny_bind (wpAny_holding (thn (ho.run pins s σ H _ I h) fun ov s1 ⟨x, H1, I1, rx, a, C, dx, fs, ex, ea, c, n, l, q⟩ => ?_))
  subst ex
  obtain rfl : ov = Value.ref a := rx
  refine wpAny_bind (wpAny_standAt ?_)
  refine wpAny_bind (wpAny_holding (setattr_ok I1 ea c n l r fun s2 I2 => ?_))
  exact wpAny_release ⟨σ, _, I2, q⟩
end
end Toy
namespace Toy
open PySem PySem.Spec PyProof.Rows L2
theorem hp_same {H H' : Hp} {a : Addr} {o : HO} (s : Same H H') (h : H a = some o) : H' a = some o := s _ _ h
theorem hp_at {H H' : Hp} {a : Addr} {o : HO} (h : H a = some o) (s : Same H H') : H' a = some o := s _ _ h
theorem sql_at {K : PySem.W.Frag} {H H' : Hp} {p : Addr} {xs : List V} (h : SqL K H p xs) (s : Same H H') : SqL K H' p xs := s.seq h
theorem sqt_at {K : PySem.W.Frag} {H H' : Hp} {a : Addr} {xs : List V} (h : SqT K H a xs) (s : Same H H') : SqT K H' a xs := same_tup s h
theorem same_bk {H M H' : Hp} (b : Same M H') (a : Same H M) : Same H H' := a.trans b
theorem hp_new {H : Hp} {l a : Addr} {o u : HO} (n : H l = none) (h : H a = some o) : upd H l u a = some o := same_new n u _ _ h
theorem s1k : 1000 ≤ sizeLine := by decide
theorem lk1000 {n : Nat} (h : n ≤ 1000) : n ≤ sizeLine := Nat.le_trans h s1k
theorem lt1000 {n : Nat} (h : n < 1000) : n < sizeLine := Nat.lt_of_lt_of_le h s1k
theorem tyL {K : PySem.W.Frag} {H : Hp} {p : Addr} {xs : List V} (h : H p = some (.lst xs)) : tyV K "list" (.ref p) H := .inl ⟨rfl, xs, SqL.of h⟩
theorem sq_same {K : PySem.W.Frag} {H H' : Hp} {p : Addr} {xs : List V} (s : Same H H') (h : SqL K H p xs) : SqL K H' p xs := s.seq h
theorem newS {H H' : Hp} {l : Addr} {o : HO} (e : upd H l o = H') (n : H l = none) : Same H H' := e ▸ same_new n o
theorem newO {H H' : Hp} {l : Addr} {o : HO} (e : upd H l o = H') : H' l = some o := e ▸ upd_same
end Toy
namespace Toy
open PySem L2
def top (i : Nat) : Stmt := PySem.Challenge.pw_joinedasks_k11_deeds_known.main.body.getD i (.Pass ⟨0, 0, 0, 0⟩)
abbrev s_is_whole : Stmt := top 1
theorem sc_is_whole : FnScope ["thing"] ["thing"] (defScope s_is_whole) := ⟨rfl, rfl, rfl, by decide +kernel, rfl, by decide +kernel, by decide +kernel⟩
abbrev s_is_row_of : Stmt := top 2
theorem sc_is_row_of : FnScope ["thing", "many"] ["thing", "many"] (defScope s_is_row_of) := ⟨rfl, rfl, rfl, by decide +kernel, rfl, by decide +kernel, by decide +kernel⟩
abbrev s_is_end : Stmt := top 4
theorem sc_is_end : FnScope ["thing"] ["thing"] (defScope s_is_end) := ⟨rfl, rfl, rfl, by decide +kernel, rfl, by decide +kernel, by decide +kernel⟩
abbrev s_is_deed : Stmt := top 5
theorem sc_is_deed : FnScope ["thing", "add", "low", "high"] ["thing"] (defScope s_is_deed) := ⟨rfl, rfl, rfl, by decide +kernel, rfl, by decide +kernel, by decide +kernel⟩
abbrev s__law_pot : Stmt := top 7
theorem sc__law_pot : FnScope ["_law_script", "_law_k", "_law_cell", "_law_seed"] ["_law_script", "_law_k"] (defScope s__law_pot) := ⟨rfl, rfl, rfl, by decide +kernel, rfl, by decide +kernel, by decide +kernel⟩
abbrev s__law_take : Stmt := top 8
theorem sc__law_take : FnScope ["_law_pot_here", "_law_many", "_law_digit"] ["_law_pot_here", "_law_many"] (defScope s__law_take) := ⟨rfl, rfl, rfl, by decide +kernel, rfl, by decide +kernel, by decide +kernel⟩
abbrev s__law_number : Stmt := top 9
theorem sc__law_number : FnScope ["_law_pot_here", "_law_road", "_law_found"] ["_law_pot_here"] (defScope s__law_number) := ⟨rfl, rfl, rfl, by decide +kernel, rfl, by decide +kernel, by decide +kernel⟩
abbrev s__law_deed : Stmt := top 10
theorem sc__law_deed : FnScope ["_law_pot_here", "_law_road", "_law_add", "_law_one", "_law_other"] ["_law_pot_here"] (defScope s__law_deed) := ⟨rfl, rfl, rfl, by decide +kernel, rfl, by decide +kernel, by decide +kernel⟩
abbrev s__law_odd : Stmt := top 11
theorem sc__law_odd : FnScope ["_law_pot_here", "_law_some"] ["_law_pot_here"] (defScope s__law_odd) := ⟨rfl, rfl, rfl, by decide +kernel, rfl, by decide +kernel, by decide +kernel⟩
abbrev s__law_spoilt : Stmt := top 12
theorem sc__law_spoilt : FnScope ["_law_pot_here", "_law_deed_here", "_law_road", "_law_odd_here", "_law_at", "_law_end"] ["_law_pot_here", "_law_deed_here"] (defScope s__law_spoilt) := ⟨rfl, rfl, rfl, by decide +kernel, rfl, by decide +kernel, by decide +kernel⟩
abbrev s__law_whole : Stmt := top 13
theorem sc__law_whole : FnScope ["_law_thing"] ["_law_thing"] (defScope s__law_whole) := ⟨rfl, rfl, rfl, by decide +kernel, rfl, by decide +kernel, by decide +kernel⟩
abbrev s__law_is_deed : Stmt := top 14
theorem sc__law_is_deed : FnScope ["_law_thing", "_law_end"] ["_law_thing"] (defScope s__law_is_deed) := ⟨rfl, rfl, rfl, by decide +kernel, rfl, by decide +kernel, by decide +kernel⟩
abbrev s__law_truths_right : Stmt := top 15
theorem sc__law_truths_right : FnScope ["_law_pot_here", "_law_some", "_law_deed_here", "_law_at", "_law_twin", "_law_turn"] ["_law_pot_here"] (defScope s__law_truths_right) := ⟨rfl, rfl, rfl, by decide +kernel, rfl, by decide +kernel, by decide +kernel⟩
abbrev s_law : Stmt := top 16
theorem sc_law : FnScope ["_law_script", "_law_k", "_law_pot_here", "_law_thing", "_law_turn", "_law_kept", "_law_due"] ["_law_script"] (defScope s_law) := ⟨rfl, rfl, rfl, by decide +kernel, rfl, by decide +kernel, by decide +kernel⟩
structure Bl (K : PySem.W.Frag) (mg : Str → Option Value) : Prop where
  abs_ : mg "abs" = none
  all_ : mg "all" = none
  bool_ : mg "bool" = none
  divmod_ : mg "divmod" = none
  int_ : mg "int" = none
  isinstance_ : mg "isinstance" = none
  len_ : mg "len" = none
  list_ : mg "list" = none
  max_ : mg "max" = none
  min_ : mg "min" = none
  range_ : mg "range" = none
  repr_ : mg "repr" = none
  tuple_ : mg "tuple" = none

/-! ### data: a deed -/
structure Dd where
  add : Int
  low : Option Int
  high : Option Int
def oV : Option Int → V
  | none => .non
  | some i => .int i
def Dd.vs (d : Dd) : List V := [.int d.add, oV d.low, oV d.high]
def Dd.at_ (K : PySem.W.Frag) (H : Hp) (a : Addr) (d : Dd) : Prop := SqT K H a d.vs
/-- the ends stand right -/
def Dd.Ok (d : Dd) : Prop := ∀ l h, d.low = some l → d.high = some h → l < h ∨ (l = h ∧ d.add = 0)
def up (o : Option Int) (f : Int) : Int := match o with | none => f | some l => if f > l then f else l
def dn (o : Option Int) (f : Int) : Int := match o with | none => f | some h => if f < h then f else h
def Dd.ap (d : Dd) (v : Int) : Int := dn d.high (up d.low (v + d.add))
def hi (o : Option Int) (f : Int) : Int := match o with | none => f | some h => if f > h then h else f
def mk (d : Dd) (v : Int) : Int := match d.low with | none => hi d.high (v + d.add) | some l => if v + d.add < l then l else hi d.high (v + d.add)
theorem mk_eq {d : Dd} (ok : d.Ok) (v : Int) : mk d v = d.ap v := by
  obtain ⟨add, low, high⟩ := d
  have ok' := ok
  unfold Dd.Ok at ok'
  cases low with
  | none =>
    cases high with
    | none => rfl
    | some h =>
      show (if v + add > h then h else v + add) = if v + add < h then v + add else h
      by_cases c : v + add > h
      · rw [if_pos c, if_neg (by omega)]
      · rw [if_neg c]
        by_cases c2 : v + add < h
        · rw [if_pos c2]
        · rw [if_neg c2]; omega
  | some l =>
    cases high with
    | none =>
      show (if v + add < l then l else v + add) = if v + add > l then v + add else l
      by_cases c : v + add < l
      · rw [if_pos c, if_neg (by omega)]
      · rw [if_neg c]
        by_cases c2 : v + add > l
        · rw [if_pos c2]
        · rw [if_neg c2]; omega
    | some h =>
      have := ok' l h rfl rfl
      show (if v + add < l then l else if v + add > h then h else v + add) = if (if v + add > l then v + add else l) < h then (if v + add > l then v + add else l) else h
      by_cases c : v + add < l
      · rw [if_pos c, if_neg (show ¬ v + add > l by omega)]
        by_cases c2 : l < h
        · rw [if_pos c2]
        · rw [if_neg c2]; omega
      · rw [if_neg c]
        have e : (if v + add > l then v + add else l) = v + add := by
          by_cases c2 : v + add > l
          · rw [if_pos c2]
          · rw [if_neg c2]; omega
        rw [e]
        by_cases c2 : v + add > h
        · rw [if_pos c2, if_neg (by omega)]
        · rw [if_neg c2]
          by_cases c3 : v + add < h
          · rw [if_pos c3]
          · rw [if_neg c3]; omega
/-- all numbers of a deed are within b -/
def Dd.In (b : Int) (d : Dd) : Prop := -b ≤ d.add ∧ d.add ≤ b ∧ (∀ l, d.low = some l → -b ≤ l ∧ l ≤ b) ∧ ∀ l, d.high = some l → -b ≤ l ∧ l ≤ b
theorem in_mk {b add : Int} {low high : Option Int} (h1 : -b ≤ add) (h2 : add ≤ b) (hl : ∀ l, low = some l → -b ≤ l ∧ l ≤ b) (hh : ∀ l, high = some l → -b ≤ l ∧ l ≤ b) : Dd.In b ⟨add, low, high⟩ := ⟨h1, h2, hl, hh⟩
theorem in_none {b : Int} : ∀ l, (none : Option Int) = some l → -b ≤ l ∧ l ≤ b := fun _ h => nomatch h
theorem in_some {b x : Int} (h1 : -b ≤ x) (h2 : x ≤ b) : ∀ l, some x = some l → -b ≤ l ∧ l ≤ b := fun l h => by cases h; exact ⟨h1, h2⟩
theorem ap_in {b c : Int} {d : Dd} {v : Int} (h : d.In b) (h1 : -c ≤ v) (h2 : v ≤ c) (h0 : 0 ≤ c) : -(b + c) ≤ d.ap v ∧ d.ap v ≤ b + c := by
  obtain ⟨a1, a2, hl, hh⟩ := h
  unfold Dd.ap dn up
  cases el : d.low with
  | none =>
    cases eh : d.high with
    | none => dsimp only; omega
    | some k => have := hh k eh; dsimp only; split <;> omega
  | some l =>
    have := hl l el
    cases eh : d.high with
    | none => dsimp only; split <;> omega
    | some k => have := hh k eh; dsimp only; split <;> split <;> omega
theorem fits {i : Int} (h1 : -(10 ^ 40) ≤ i) (h2 : i ≤ 10 ^ 40) : i.natAbs.log2 < 1920 := by
  refine log_lt (by decide) (Nat.lt_of_le_of_lt (m := 10 ^ 40) (by omega) (by decide))
theorem menu7 : ∀ j : Nat, j < 7 → ∃ z : Int, ([.int 3, .int 5, .int 11, .int 17, .int 29, .int 37, .int 41] : List V)[j]? = some (.int z) ∧ 0 < z ∧ z ≤ 41
  | 0, _ => ⟨_, rfl, by decide, by decide⟩
  | 1, _ => ⟨_, rfl, by decide, by decide⟩
  | 2, _ => ⟨_, rfl, by decide, by decide⟩
  | 3, _ => ⟨_, rfl, by decide, by decide⟩
  | 4, _ => ⟨_, rfl, by decide, by decide⟩
  | 5, _ => ⟨_, rfl, by decide, by decide⟩
  | 6, _ => ⟨_, rfl, by decide, by decide⟩
  | n + 7, h => absurd h (by omega)
theorem menu6 : ∀ j : Nat, j < 6 → ∃ z : Int, ([.int 4, .int 12, .int 1000, .int (10 ^ Int.toNat 9), .int (10 ^ Int.toNat 29), .int (10 ^ Int.toNat 29)] : List V)[j]? = some (.int z) ∧ 1 ≤ z ∧ z ≤ 10 ^ 29
  | 0, _ => ⟨_, rfl, by decide, by decide⟩
  | 1, _ => ⟨_, rfl, by decide, by decide⟩
  | 2, _ => ⟨_, rfl, by decide, by decide⟩
  | 3, _ => ⟨_, rfl, by decide, by decide⟩
  | 4, _ => ⟨_, rfl, by decide, by decide⟩
  | 5, _ => ⟨_, rfl, by decide, by decide⟩
  | n + 6, h => absurd h (by omega)
def PotAt (H : Hp) (p : Addr) : Prop := ∃ a b : Int, H p = some (.lst [.int a, .int b]) ∧ 0 ≤ a ∧ 0 ≤ b ∧ b < 2 ^ 40
theorem PotAt.same {H H' : Hp} {p : Addr} (e : Same H H') (h : PotAt H p) : PotAt H' p := by
  obtain ⟨a, b, h1, h2⟩ := h
  exact ⟨a, b, e _ _ h1, h2⟩
def DeedArg (K : PySem.W.Frag) (H : Hp) (a : Addr) (d : Dd) : Prop := TyX K H (.ref a) (.type "tuple") ∧ SqT K H a d.vs ∧ d.Ok
def Dz (H : Hp) (a : Addr) (d : Dd) : Prop := H a = some (.tup d.vs) ∧ d.In (10 ^ 29 + 3) ∧ d.Ok
theorem Dz.arg {K : PySem.W.Frag} {H : Hp} {a : Addr} {d : Dd} (h : Dz H a d) : DeedArg K H a d := ⟨.base (.tup h.1), SqT.of h.1, h.2.2⟩
theorem Dz.same {H H' : Hp} {a : Addr} {d : Dd} (e : Same H H') (h : Dz H a d) : Dz H' a d := ⟨e _ _ h.1, h.2⟩
def look : Dd := ⟨0, none, none⟩
theorem look_ok : look.Ok := fun _ _ h => nomatch h
theorem look_in {b : Int} (h : 0 ≤ b) : look.In b := in_mk (by omega) (by omega) in_none in_none
theorem pot_ne {H : Hp} {p a : Addr} (h : PotAt H p) (n : H a = none) : a ≠ p := fun z => by obtain ⟨_, _, h1, _⟩ := h; rw [← z, n] at h1; cases h1
end Toy
/-! ### tuples: t + u and t[a:b] of any kind -/
namespace Toy
open PySem PySem.Spec PyProof.Rows L2
def rCatU : R2 := fun x y H Q => ∃ a b xs ys, x = .ref a ∧ y = .ref b ∧ H a = some (.tup xs) ∧ H b = some (.tup ys) ∧ xs.length + ys.length ≤ sizeLine ∧ ∀ p H', Same H H' → H' p = some (.tup (xs ++ ys)) → Q (.ref p) H'
theorem op_catU {X : Cx} : OpR X (binaryOp .Add) rCatU := by
  intro pins s σ H x y v u Q I rx ry h
  obtain ⟨a, b, xs, ys, rfl, rfl, ha, hb, hz, q⟩ := h
  refine op_catA pins s σ H _ _ v u Q I rx ry ⟨a, b, xs, ys, rfl, rfl, SqT.of ha, SqT.of hb, hz, fun e => ?_, fun _ e => ?_, fun _ _ p hp => q p _ (same_new hp _) upd_same⟩
  · subst e
    exact q b H (fun _ _ z => z) (by rw [hb, List.nil_append])
  · subst e
    exact q a H (fun _ _ z => z) (by rw [ha, List.append_nil])
def rSlU : V → Option Int → Option Int → Hp → VK → Prop := fun x lo hi H Q => ∃ a xs, x = .ref a ∧ H a = some (.tup xs) ∧ ∀ p H', Same H H' → H' p = some (.tup (cutV xs lo hi)) → Q (.ref p) H'
theorem sl_tupU {X : Cx} : SlR X rSlU := by
  intro pins s σ H x v vl vu lo hi sl Q I rx hs pl pu h
  obtain ⟨a, xs, rfl, ha, q⟩ := h
  refine sl_tupA pins s σ H _ v vl vu lo hi sl Q I rx hs pl pu ⟨a, xs, rfl, SqT.of ha, fun e => ?_, fun _ p hp => q p _ (same_new hp _) upd_same⟩
  refine q a H (fun _ _ z => z) ?_
  rw [ha]
  have : cutV xs lo hi = xs := by
    unfold cutV
    rw [e.1, e.2, List.drop_zero, Nat.sub_zero, List.take_length]
  rw [this]
/-! ### things of any kind: numbers, truths, None, texts, tuples, lists, dicts with ints as keys -/
mutual
def wt : PyData → Nat
  | .none => 5
  | .bool _ => 5
  | .int _ => 1921
  | .str x => (reprText x).length + 1
  | .list xs => wts xs + 4
  | .tuple xs => wts xs + 4
  | .dict kvs => wtk kvs + 4
def wts : List PyData → Nat
  | [] => 0
  | x :: xs => wt x + 4 + wts xs
def wtk : List (PyData × PyData) → Nat
  | [] => 0
  | (k, v) :: r => wt k + wt v + 8 + wtk r
end
theorem dicT_len (ts : List Str) : (dictText ts).length ≤ piled ts + 4 := by
  unfold dictText
  rw [strLen_append, strLen_append]
  have e1 : ((("{" : String) : Str)).length = 1 := rfl
  have e3 : ((("}" : String) : Str)).length = 1 := rfl
  by_cases h : ts = []
  · subst h; decide +kernel
  · have := join_length_add ts h; omega
mutual
theorem shown_wt : ∀ d : PyData, d.showable = true → d.shown.length ≤ wt d
  | .none, _ => by show (("None" : String) : Str).length ≤ 5; decide +kernel
  | .bool b, _ => by cases b <;> (show _ ≤ 5; decide +kernel)
  | .int i, h => PyProof.Rows.int_text_len_1921 (of_decide_eq_true (by simpa [PyData.showable] using h))
  | .str x, _ => Nat.le_succ _
  | .list ds, h => by
    have h1 := showns_wt ds (by simpa [PyData.showable] using h)
    have h2 := lstT_len (PyData.shownAll ds)
    show (listText (PyData.shownAll ds)).length ≤ wts ds + 4
    omega
  | .tuple ds, h => by
    have h1 := showns_wt ds (by simpa [PyData.showable] using h)
    have h2 := tupT_len (PyData.shownAll ds)
    show (tupleText (PyData.shownAll ds)).length ≤ wts ds + 4
    omega
  | .dict kvs, h => by
    have h1 := shownk_wt kvs (by simpa [PyData.showable] using h)
    have h2 := dicT_len (PyData.shownKv kvs)
    show (dictText (PyData.shownKv kvs)).length ≤ wtk kvs + 4
    omega
theorem showns_wt : ∀ ds : List PyData, PyData.showableAll ds = true → piled (PyData.shownAll ds) ≤ wts ds
  | [], _ => Nat.le_refl _
  | d :: ds, h => by
    have h1 := shown_wt d (by simp [PyData.showableAll] at h; exact h.1)
    have h2 := showns_wt ds (by simp [PyData.showableAll] at h; exact h.2)
    show piled (d.shown :: PyData.shownAll ds) ≤ _
    rw [piled_cons]
    show _ ≤ wt d + 4 + wts ds
    omega
theorem shownk_wt : ∀ kvs : List (PyData × PyData), PyData.showableKv kvs = true → piled (PyData.shownKv kvs) ≤ wtk kvs
  | [], _ => Nat.le_refl _
  | (k, v) :: r, h => by
    have h0 : (k.showable = true ∧ v.showable = true) ∧ PyData.showableKv r = true := by simpa [PyData.showableKv] using h
    have h1 := shown_wt k h0.1.1
    have h2 := shown_wt v h0.1.2
    have h3 := shownk_wt r h0.2
    show piled ((k.shown ++ ": " ++ v.shown) :: PyData.shownKv r) ≤ _
    rw [piled_cons, strLen_append, strLen_append]
    have e : (((": " : String) : Str)).length = 2 := rfl
    show _ ≤ wt k + wt v + 8 + wtk r
    omega
end
theorem shown_wz {d : PyData} (h : d.showable = true) (c : wt d ≤ 10000000) : d.shown.length ≤ sizeLine := Nat.le_trans (shown_wt d h) (Nat.le_trans c (by decide))
/-- the dict {0: 1, None: 2, 7: 3}, by its entries -/
def DNo (a : Addr) (h : Heap) : Prop := (a == sysModules) = false ∧ ∃ (o : Obj) (es : Array DictEntry) (ep : Nat) (t0 t1 t2 t3 t4 : Tok), h.get? a = some o ∧ o.ExactDict ∧ o.data = .dict es ep ∧ es.toList.map (fun e => e.key) = [.int 0 t0, .none, .int 7 t3] ∧ es.toList.map (fun e => e.val) = [.int 1 t1, .int 2 t2, .int 3 t4]
def DN (a : Addr) : HO := .ext (DNo a)
theorem dn_ok {P : Program} {w : World} {H : Hp} {h : Heap} {a : Addr} (g : DNo a h) : ObjOk P w H h a (DN a) := by
  obtain ⟨g1, o, es, ep, t0, t1, t2, t3, t4, ho, r⟩ := id g
  refine ⟨g, ⟨o, ho⟩, fun h1 h2 p k => ?_⟩
  obtain ⟨q1, o', es', ep', u0, u1, u2, u3, u4, ho', r'⟩ := p
  exact ⟨q1, o', es', ep', u0, u1, u2, u3, u4, k _ ho', r'⟩
/-- a value's type, that dict too -/
inductive TyN (K : PySem.W.Frag) (H : Hp) : V → Value → Prop where
  | base {x : V} {t : Value} (h : TyX K H x t) : TyN K H x t
  | dn {a : Addr} (e : H a = some (DN a)) : TyN K H (.ref a) (.type "dict")
def rIsiN (K : PySem.W.Frag) : List V → Hp → VK → Prop := fun xs H Q => ∃ (x c : V) (t u : Value) (b : Bool), xs = [x, c] ∧ ClsV c u ∧ TyN K H x t ∧ PySem.W.kitOne K t u = some b ∧ Q (.bl b) H
theorem call_isiN {X : Cx} : CallR X (.builtin "isinstance") (rIsiN X.K) := by
  intro pins s σ H xs us Q I r h
  obtain ⟨x, c, t, u, b, rfl, k, ty, e, q⟩ := h
  cases ty with
  | base ty => exact call_isi pins s σ H _ us Q I r ⟨x, c, t, u, b, rfl, k, ty, e, q⟩
  | @dn a ea =>
    obtain ⟨u1, u2, rfl, r1, r2⟩ := vals2 r
    have e2 := k.eq r2
    subst e2
    cases (show u1 = Value.ref a from r1)
    obtain ⟨_, o, es, ep, t0, t1, t2, t3, t4, ho, hx, _⟩ := (I.hok a _ ea).1
    exact PySem.W.kia_one PySem.W.kitx_dict I.kIn ⟨o, ho, hx.1⟩ e (fun z => nomatch z) fun tk => ⟨.bl b, H, I.tok tk, rfl, q⟩
/-- the display -/
def tDispN : TE := fun _ H Q => ∀ p, H p = none → p ≠ sysModules → Q (.ref p) (upd H p (DN p))
theorem pe_dispN {X : Cx} {pos : Pos} {e0 e1 e2 e3 e4 e5 : Expr} (h0 : PE X e0 (tC (.int 0))) (h1 : PE X e1 (tC (.int 1))) (h2 : PE X e2 (tC .non)) (h3 : PE X e3 (tC (.int 2))) (h4 : PE X e4 (tC (.int 7))) (h5 : PE X e5 (tC (.int 3))) :
    PE X (.Dict [some e0, some e2, some e4] [e1, e3, e5] pos) tDispN := by
  refine ⟨fun pins s σ H Q I q => ?_⟩
  have hn := I.hok.fresh (Nat.le_refl s.heap.objs.size)
  have I1 := I.laid (a := s.heap.objs.size) (o := .dK []) (h' := s.heap.push { cls := .type "dict", data := .dict #[] }) (t' := s.toks) (fun _ _ q => Heap.get?_push_of_some _ q) (Nat.le_refl _) (dk_empty s.heap I.big)
  have R := (pps_cons (pos := pos) h0 h1 (pps_cons h2 h3 (pps_cons h4 h5 pps_nil))).run pins _ σ _ (fun ps H' => ps = [(V.int 0, V.int 1), (V.non, V.int 2), (V.int 7, V.int 3)] ∧ H' = upd H s.heap.objs.size (.dK [])) I1 ⟨rfl, rfl⟩
  refine wpAny_Dict_walk (knd := noneKind X.prog X.w) rfl rfl (fun z => nomatch z) (by show 3 ≤ 15; decide) (thn R fun ws s2 ⟨ps, H2, I2, rel, e, eH⟩ => ?_)
  subst e eH
  cases rel with
  | @cons p1 q1 _ _ ha ta =>
  cases ta with
  | @cons p2 q2 _ _ hb tb =>
  cases tb with
  | @cons p3 q3 _ _ hc tc =>
  cases tc
  obtain ⟨k1, v1⟩ := q1
  obtain ⟨k2, v2⟩ := q2
  obtain ⟨k3, v3⟩ := q3
  obtain ⟨⟨t0, rfl⟩, ⟨t1, rfl⟩⟩ := ha
  obtain ⟨rfl, ⟨t2, rfl⟩⟩ := hb
  obtain ⟨⟨t3, rfl⟩, ⟨t4, rfl⟩⟩ := hc
  obtain ⟨z, hd, vs0, r0, dd⟩ := dk_of I2.hok upd_same
  cases r0
  refine ⟨[(some (.inl 0), .int 1 t1), (none, .int 2 t2), (some (.inl 7), .int 3 t4)], ⟨rfl, rfl, rfl, rfl, rfl, rfl, True.intro⟩, ?_, fun h' dd' hs => ⟨.ref s.heap.objs.size, _, ?_, rfl, q _ hn (Nat.ne_of_gt I.big)⟩⟩
  · obtain ⟨o, es, ep, ho, hx, hdt, hk, hp, hnd⟩ := dd
    have e0 : es = #[] := by
      cases es with
      | mk l =>
        cases hp
        rfl
    subst e0
    exact ⟨o, #[], ep, ho, hx, hdt, fun e he => by simp at he, .nil, List.nodup_nil⟩
  · have he : ∃ q, h'.get? s.heap.objs.size = some q := let ⟨q, _, _, hq, _⟩ := dd'; ⟨q, hq⟩
    have hnew : DNo s.heap.objs.size h' := by
      obtain ⟨o, es, ep, ho, hx, hdt, hk, hp, hnd⟩ := dd'
      have em : merged [] [((some (.inl 0) : Option Key), Value.int 1 t1), (none, .int 2 t2), (some (.inl 7), .int 3 t4)] = [(some (.inl 0), .int 1 t1), (none, .int 2 t2), (some (.inl 7), .int 3 t4)] := rfl
      rw [em] at hp
      have key : ∀ el : List DictEntry, Pairs (noneKind X.prog X.w) el [(some (.inl 0), .int 1 t1), (none, .int 2 t2), (some (.inl 7), .int 3 t4)] → ∃ u0 u3, el.map (fun e => e.key) = [.int 0 u0, .none, .int 7 u3] ∧ el.map (fun e => e.val) = [.int 1 t1, .int 2 t2, .int 3 t4] := by
        intro el hp
        cases hp with
        | @cons a _ as _ a1 a2 ra =>
        cases ra with
        | @cons b _ bs _ b1 b2 rb =>
        cases rb with
        | @cons c _ cs _ c1 c2 rc =>
        cases rc
        have a1' : keyIs (.inl 0) a.key = true := a1
        have b1' : nkIs none b.key = true := b1
        have c1' : keyIs (.inl 7) c.key = true := c1
        rcases keyIs_shape a1' with ⟨i, u0, e1, e2⟩ | ⟨_, _, e1, _⟩
        · cases e1
          rcases keyIs_shape c1' with ⟨i, u3, f1, f2⟩ | ⟨_, _, f1, _⟩
          · cases f1
            exact ⟨u0, u3, by show [a.key, b.key, c.key] = _; rw [e2, f2, nk_none b1'], by show [a.val, b.val, c.val] = _; rw [a2, b2, c2]⟩
          · cases f1
        · cases e1
      obtain ⟨u0, u3, g1, g2⟩ := key _ hp
      exact ⟨hd, o, es, ep, u0, t1, t2, u3, t4, ho, hx, hdt, g1, g2⟩
    have eu : upd H s.heap.objs.size (DN s.heap.objs.size) = upd (upd H s.heap.objs.size (.dK [])) s.heap.objs.size (DN s.heap.objs.size) := (upd_upd).symm
    rw [eu]
    exact d_write I2 (by rw [upd_same]; exact True.intro) hs he (dn_ok hnew)
/-- a thing: d stands at v; the list p is no part of it -/
inductive Th (K : PySem.W.Frag) (p : Addr) (H : Hp) : V → PyData → Prop
  | non : Th K p H .non .none
  | bl (b : Bool) : Th K p H (.bl b) (.bool b)
  | int (i : Int) : Th K p H (.int i) (.int i)
  | str (x : Str) : Th K p H (.str x) (.str x)
  | tup {a : Addr} {tr : List (V × PyData)} : H a = some (.tup (tr.map fun t => t.1)) → (∀ t ∈ tr, Th K p H t.1 t.2) → Th K p H (.ref a) (.tuple (tr.map fun t => t.2))
  | lst {a : Addr} {tr : List (V × PyData)} : a ≠ p → a ≠ sysModules → H a = some (.lst (tr.map fun t => t.1)) → (∀ t ∈ tr, Th K p H t.1 t.2) → Th K p H (.ref a) (.list (tr.map fun t => t.2))
  | dct {a : Addr} {tr : List (Int × V × PyData)} : H a = some (.dK (tr.map fun t => (Sum.inl t.1, t.2.1))) → (∀ t ∈ tr, Th K p H t.2.1 t.2.2) → Th K p H (.ref a) (.dict (tr.map fun t => (.int t.1, t.2.2)))
  | dn {a : Addr} : H a = some (DN a) → Th K p H (.ref a) (.dict [(.int 0, .int 1), (.none, .int 2), (.int 7, .int 3)])
theorem Th.same {K : PySem.W.Frag} {p : Addr} {H H' : Hp} {v : V} {d : PyData} (h : Th K p H v d) (e : Same H H') : Th K p H' v d := by
  induction h with
  | non => exact .non
  | bl b => exact .bl b
  | int i => exact .int i
  | str x => exact .str x
  | tup h1 _ ih => exact .tup (e _ _ h1) ih
  | lst n1 n2 h1 _ ih => exact .lst n1 n2 (e _ _ h1) ih
  | dct h1 _ ih => exact .dct (e _ _ h1) ih
  | dn h1 => exact .dn (e _ _ h1)
theorem Th.but {K : PySem.W.Frag} {p : Addr} {H H' : Hp} {v : V} {d : PyData} {ys : List V} (h : Th K p H v d) (e : But p H H') (hp : H p = some (.lst ys)) : Th K p H' v d := by
  induction h with
  | non => exact .non
  | bl b => exact .bl b
  | int i => exact .int i
  | str x => exact .str x
  | tup h1 _ ih => exact .tup (e _ _ (ne_of h1 hp (by intro z; cases z)) h1) ih
  | lst n1 n2 h1 _ ih => exact .lst n1 n2 (e _ _ n1 h1) ih
  | dct h1 _ ih => exact .dct (e _ _ (ne_of h1 hp (by intro z; cases z)) h1) ih
  | dn h1 => exact .dn (e _ _ (ne_of h1 hp (by intro z; cases z)) h1)
/-- the kind of a thing -/
def tyD : PyData → String
  | .none => "NoneType"
  | .bool _ => "bool"
  | .int _ => "int"
  | .str _ => "str"
  | .list _ => "list"
  | .tuple _ => "tuple"
  | .dict _ => "dict"
def isTu : PyData → Bool
  | .tuple _ => true
  | _ => false
def isIn : PyData → Bool
  | .int _ => true
  | .bool _ => true
  | _ => false
def isBl : PyData → Bool
  | .bool _ => true
  | _ => false
def isSt : PyData → Bool
  | .str _ => true
  | _ => false
/-- a whole number -/
def isWh : PyData → Bool
  | .int _ => true
  | _ => false
theorem isWh_eq (d : PyData) : isWh d = (isIn d && !isBl d) := by cases d <;> rfl
theorem Th.ty {K : PySem.W.Frag} {p : Addr} {H : Hp} {v : V} {d : PyData} (h : Th K p H v d) : TyN K H v (.type (tyD d)) := by
  cases h with
  | non => exact .base <| .base .non
  | bl b => exact .base <| .base (.bl b)
  | int i => exact .base <| .base (.int i)
  | str x => exact .base <| .base (.str x)
  | tup h1 _ => exact .base <| .base (.tup h1)
  | lst _ _ h1 _ => exact .base <| .base (.lst h1)
  | dct h1 _ => exact .base <| .base (.dK h1)
  | dn h1 => exact .dn h1
theorem kit_tu {K : PySem.W.Frag} : ∀ d : PyData, PySem.W.kitOne K (.type (tyD d)) (.type "tuple") = some (isTu d)
  | .none => (kit_ty (by decide +kernel) : PySem.W.kitOne K (.type "NoneType") (.type "tuple") = some false)
  | .bool _ => (kit_ty (by decide +kernel) : PySem.W.kitOne K (.type "bool") (.type "tuple") = some false)
  | .int _ => (kit_ty (by decide +kernel) : PySem.W.kitOne K (.type "int") (.type "tuple") = some false)
  | .str _ => (kit_ty (by decide +kernel) : PySem.W.kitOne K (.type "str") (.type "tuple") = some false)
  | .list _ => (kit_ty (by decide +kernel) : PySem.W.kitOne K (.type "list") (.type "tuple") = some false)
  | .tuple _ => (kit_ty (by decide +kernel) : PySem.W.kitOne K (.type "tuple") (.type "tuple") = some true)
  | .dict _ => (kit_ty (by decide +kernel) : PySem.W.kitOne K (.type "dict") (.type "tuple") = some false)
theorem kit_in {K : PySem.W.Frag} : ∀ d : PyData, PySem.W.kitOne K (.type (tyD d)) (.type "int") = some (isIn d)
  | .none => (kit_ty (by decide +kernel) : PySem.W.kitOne K (.type "NoneType") (.type "int") = some false)
  | .bool _ => (kit_ty (by decide +kernel) : PySem.W.kitOne K (.type "bool") (.type "int") = some true)
  | .int _ => (kit_ty (by decide +kernel) : PySem.W.kitOne K (.type "int") (.type "int") = some true)
  | .str _ => (kit_ty (by decide +kernel) : PySem.W.kitOne K (.type "str") (.type "int") = some false)
  | .list _ => (kit_ty (by decide +kernel) : PySem.W.kitOne K (.type "list") (.type "int") = some false)
  | .tuple _ => (kit_ty (by decide +kernel) : PySem.W.kitOne K (.type "tuple") (.type "int") = some false)
  | .dict _ => (kit_ty (by decide +kernel) : PySem.W.kitOne K (.type "dict") (.type "int") = some false)
theorem kit_bl {K : PySem.W.Frag} : ∀ d : PyData, PySem.W.kitOne K (.type (tyD d)) (.type "bool") = some (isBl d)
  | .none => (kit_ty (by decide +kernel) : PySem.W.kitOne K (.type "NoneType") (.type "bool") = some false)
  | .bool _ => (kit_ty (by decide +kernel) : PySem.W.kitOne K (.type "bool") (.type "bool") = some true)
  | .int _ => (kit_ty (by decide +kernel) : PySem.W.kitOne K (.type "int") (.type "bool") = some false)
  | .str _ => (kit_ty (by decide +kernel) : PySem.W.kitOne K (.type "str") (.type "bool") = some false)
  | .list _ => (kit_ty (by decide +kernel) : PySem.W.kitOne K (.type "list") (.type "bool") = some false)
  | .tuple _ => (kit_ty (by decide +kernel) : PySem.W.kitOne K (.type "tuple") (.type "bool") = some false)
  | .dict _ => (kit_ty (by decide +kernel) : PySem.W.kitOne K (.type "dict") (.type "bool") = some false)
theorem kit_st {K : PySem.W.Frag} : ∀ d : PyData, PySem.W.kitOne K (.type (tyD d)) (.type "str") = some (isSt d)
  | .none => (kit_ty (by decide +kernel) : PySem.W.kitOne K (.type "NoneType") (.type "str") = some false)
  | .bool _ => (kit_ty (by decide +kernel) : PySem.W.kitOne K (.type "bool") (.type "str") = some false)
  | .int _ => (kit_ty (by decide +kernel) : PySem.W.kitOne K (.type "int") (.type "str") = some false)
  | .str _ => (kit_ty (by decide +kernel) : PySem.W.kitOne K (.type "str") (.type "str") = some true)
  | .list _ => (kit_ty (by decide +kernel) : PySem.W.kitOne K (.type "list") (.type "str") = some false)
  | .tuple _ => (kit_ty (by decide +kernel) : PySem.W.kitOne K (.type "tuple") (.type "str") = some false)
  | .dict _ => (kit_ty (by decide +kernel) : PySem.W.kitOne K (.type "dict") (.type "str") = some false)
theorem Th.tup_inv {K : PySem.W.Frag} {p : Addr} {H : Hp} {v : V} {ds : List PyData} (h : Th K p H v (.tuple ds)) : ∃ (a : Addr) (tr : List (V × PyData)), v = .ref a ∧ ds = (tr.map fun t => t.2) ∧ H a = some (.tup (tr.map fun t => t.1)) ∧ ∀ t ∈ tr, Th K p H t.1 t.2 := by
  cases h with
  | @tup a tr h1 h2 => exact ⟨a, tr, rfl, rfl, h1, h2⟩
theorem Th.int_inv {K : PySem.W.Frag} {p : Addr} {H : Hp} {v : V} {i : Int} (h : Th K p H v (.int i)) : v = .int i := by cases h; rfl
theorem isTu_inv {d : PyData} (h : isTu d = true) : ∃ ds, d = .tuple ds := by cases d <;> first | exact ⟨_, rfl⟩ | cases h
theorem isWh_inv {d : PyData} (h : isWh d = true) : ∃ i, d = .int i := by cases d <;> first | exact ⟨_, rfl⟩ | cases h
/-! a thing, shown -/
theorem reads_all {h : Heap} : ∀ {tr : List (V × PyData)} {us : List Value}, Vals (tr.map fun t => t.1) us → (∀ t ∈ tr, ∀ u, RelV t.1 u → ∃ as, Reads h u t.2 as ∧ sysModules ∉ as) → ∃ as, ReadsAll h us (tr.map fun t => t.2) as ∧ sysModules ∉ as
  | [], _, .nil, _ => ⟨_, .nil, List.not_mem_nil⟩
  | t :: tr, _, .cons r rs, ih => by
    obtain ⟨as, h1, h2⟩ := ih t List.mem_cons_self _ r
    obtain ⟨bs, h3, h4⟩ := reads_all rs fun x hx => ih x (List.mem_cons_of_mem _ hx)
    exact ⟨_, .cons h1 h3, fun z => (List.mem_append.mp z).elim h2 h4⟩
theorem reads_dct {P : Program} {w : World} {h : Heap} : ∀ {tr : List (Int × V × PyData)} {vs : List (Key × Value)} {es : List DictEntry}, KV (tr.map fun t => ((Sum.inl t.1 : Key), t.2.1)) vs → Pairs (mixKind P w) es vs → (∀ t ∈ tr, ∀ u, RelV t.2.1 u → ∃ as, Reads h u t.2.2 as ∧ sysModules ∉ as) →
    ∃ as bs, ReadsAll h (es.map fun e => e.key) (tr.map fun t => PyData.int t.1) as ∧ ReadsAll h (es.map fun e => e.val) (tr.map fun t => t.2.2) bs ∧ sysModules ∉ as ∧ sysModules ∉ bs
  | [], _, _, .nil, .nil, _ => ⟨_, _, .nil, .nil, List.not_mem_nil, List.not_mem_nil⟩
  | t :: tr, _, _, .cons k ks, .cons e1 e2 es, ih => by
    obtain ⟨as, h1, h2⟩ := ih t List.mem_cons_self _ k.2
    obtain ⟨cs, bs, h3, h4, h5, h6⟩ := reads_dct ks es fun x hx => ih x (List.mem_cons_of_mem _ hx)
    have e1' := e1
    rw [← k.1] at e1'
    have e3 : keyIs (Sum.inl t.1) _ = true := e1'
    rcases keyIs_shape e3 with ⟨i, tk, ei, ek⟩ | ⟨x, tk, ei, _⟩
    · cases ei
      rw [← e2] at h1
      exact ⟨[] ++ cs, as ++ bs, .cons (by show Reads h _ (.int t.1) []; dsimp only; rw [ek]; exact Reads.int t.1 tk) h3, .cons h1 h4, h5, fun z => (List.mem_append.mp z).elim h2 h6⟩
    · cases ei
theorem Th.reads {X : Cx} {pins : List (Addr × Obj)} {σ : L2.St} {p : Addr} {H : Hp} {s : Shared} (I : Inv X pins σ H s) {v : V} {d : PyData} (h : Th X.K p H v d) : ∀ u, RelV v u → ∃ as, Reads s.heap u d as ∧ sysModules ∉ as := by
  induction h with
  | non => intro u r; cases r; exact ⟨_, .none, List.not_mem_nil⟩
  | bl b => intro u r; cases r; exact ⟨_, .bool b, List.not_mem_nil⟩
  | int i => intro u r; obtain ⟨t, rfl⟩ := r; exact ⟨_, .int i t, List.not_mem_nil⟩
  | str x => intro u r; obtain ⟨t, rfl⟩ := r; exact ⟨_, .str x t, List.not_mem_nil⟩
  | @tup a tr h1 _ ih =>
    intro u r
    cases r
    obtain ⟨its, rv, ⟨o, ho, hc, n, hd⟩, _⟩ := I.tuple (SqT.of h1)
    obtain ⟨as, h2, h3⟩ := reads_all rv ih
    exact ⟨_, .tuple ho hc hd h2, h3⟩
  | @lst a tr n1 n2 h1 _ ih =>
    intro u r
    cases r
    obtain ⟨its, rv, ⟨o, n, ho, hc, _, hd⟩, _⟩ := I.list (SqL.of h1)
    obtain ⟨as, h2, h3⟩ := reads_all rv ih
    exact ⟨_, .list ho hc hd h2, fun z => (List.mem_cons.mp z).elim (fun q => n2 q.symm) h3⟩
  | @dct a tr h1 _ ih =>
    intro u r
    cases r
    obtain ⟨_, hs, vs, kv, o, es, ep, ho, hx, hd, _, pr, _⟩ := dk_of I.hok h1
    obtain ⟨as, bs, h2, h3, h4, h5⟩ := reads_dct kv pr ih
    refine ⟨a :: as ++ bs, .dict (kvs := tr.map fun t => (PyData.int t.1, t.2.2)) ho hx.1 hd (by rw [List.map_map]; exact h2) (by rw [List.map_map]; exact h3), fun z => ?_⟩
    rcases List.mem_append.mp z with z | z
    · rcases List.mem_cons.mp z with z | z
      · rw [← z] at hs; cases hs
      · exact h4 z
    · exact h5 z
  | @dn a h1 =>
    intro u r
    cases r
    obtain ⟨hs, o, es, ep, t0, t1, t2, t3, t4, ho, hx, hd, hk, hv⟩ := (I.hok a _ h1).1
    refine ⟨a :: [] ++ [], .dict (kvs := [(.int 0, .int 1), (.none, .int 2), (.int 7, .int 3)]) ho hx.1 hd (by rw [hk]; exact .cons (.int 0 t0) (.cons .none (.cons (.int 7 t3) .nil))) (by rw [hv]; exact .cons (.int 1 t1) (.cons (.int 2 t2) (.cons (.int 3 t4) .nil))), fun z => ?_⟩
    rcases List.mem_append.mp z with z | z
    · rcases List.mem_cons.mp z with z | z
      · rw [← z] at hs; cases hs
      · cases z
    · cases z
def rReprO (K : PySem.W.Frag) : List V → Hp → VK → Prop := fun xs H Q => ∃ (x : V) (d : PyData) (p : Addr), xs = [x] ∧ Th K p H x d ∧ d.showable = true ∧ d.depth ≤ 60 ∧ d.shown.length ≤ sizeLine ∧ Q (.str d.shown) H
theorem reprO {X : Cx} {k : Nat} {K : PySem.W.Frag} (hr : RoomG k X.A) (eK : X.K = K := by rfl) : CallR X (.builtin "repr") (rReprO K) := by
  cases eK
  intro pins s σ H xs us Q I r h
  obtain ⟨x, d, p, rfl, hd, hs, hdep, hz, q⟩ := h
  obtain ⟨u, rfl, rx⟩ := vals1 r
  obtain ⟨as, rd, na⟩ := Th.reads I hd u rx
  have hu := hr.units
  cases hd with
  | non => cases rx; exact PySem.P.repr_of_none ⟨.str _, H, I.tok _, ⟨_, rfl⟩, q⟩
  | bl b => cases rx; exact PySem.P.repr_of_bool ⟨.str _, H, I.tok _, ⟨_, rfl⟩, q⟩
  | int i => obtain ⟨t, rfl⟩ := rx; exact PySem.P.repr_of_int (of_decide_eq_true (by simpa [PyData.showable] using hs)) ⟨.str _, H, I.tok _, ⟨_, rfl⟩, q⟩
  | str z => obtain ⟨t, rfl⟩ := rx; exact PySem.P.repr_of_str ⟨.str _, H, I.tok _, ⟨_, rfl⟩, q⟩ hz
  | tup _ _ =>
    cases rx
    exact repr_of_reads' rd hs (fun _ => na) hr.idle (by omega) (fun _ _ z => z) (fun h' u tk hk => ⟨.str _, H, I.kept hk, ⟨_, rfl⟩, q⟩) hz
  | lst _ _ _ _ =>
    cases rx
    exact repr_of_reads' rd hs (fun _ => na) hr.idle (by omega) (fun _ _ z => z) (fun h' u tk hk => ⟨.str _, H, I.kept hk, ⟨_, rfl⟩, q⟩) hz
  | dn _ =>
    cases rx
    exact repr_of_reads' rd hs (fun _ => na) hr.idle (by omega) (fun _ _ z => z) (fun h' u tk hk => ⟨.str _, H, I.kept hk, ⟨_, rfl⟩, q⟩) hz
  | dct _ _ =>
    cases rx
    exact repr_of_reads' rd hs (fun _ => na) hr.idle (by omega) (fun _ _ z => z) (fun h' u tk hk => ⟨.str _, H, I.kept hk, ⟨_, rfl⟩, q⟩) hz
/-! lists that may be parts of things -/
def tLstS (t : TA) : TE := fun σ H Q => t σ H fun xs H1 => xs.length ≤ sizeLine ∧ ∀ p, H1 p = none → p ≠ sysModules → Q (.ref p) (upd H1 p (.lst xs))
theorem pe_lstS {X : Cx} {es : List Expr} {t : TA} {pos : Pos} (h : PA X es t) : PE X (.List es pos) (tLstS t) := by
  refine ⟨fun pins s σ H Q I hq => ?_⟩
  refine wpAny_List_spliced (thn (h.run pos pins s σ H _ I hq) fun us s1 ⟨xs, H1, I1, r, z, q⟩ => ⟨by rw [← r.length]; exact z, ?_⟩)
  have hn : H1 s1.heap.objs.size = none := I1.hok.fresh (Nat.le_refl _)
  exact ⟨.ref s1.heap.objs.size, upd H1 s1.heap.objs.size (.lst xs), I1.laid (t' := s1.toks) (fun b u e => Heap.get?_push_of_some _ e) (Nat.le_refl _) ⟨z, us, 0, r, Heap.get?_push_size _ rfl⟩, rfl, q _ hn (Nat.ne_of_gt I1.big)⟩
def rLstOfS (K : PySem.W.Frag) : List V → Hp → VK → Prop := fun xs H Q => ∃ p ys, xs = [.ref p] ∧ (SqL K H p ys ∨ SqT K H p ys) ∧ ∀ l, H l = none → l ≠ sysModules → Q (.ref l) (upd H l (.lst ys))
theorem lstOfS {X : Cx} {K : PySem.W.Frag} (eK : X.K = K := by rfl) : CallR X (.type "list") (rLstOfS K) := by
  cases eK
  intro pins s σ H xs us Q I r h
  obtain ⟨p, ys, rfl, hq, q⟩ := h
  obtain ⟨u, rfl, rx⟩ := vals1 r
  cases rx
  have fin : ∀ (its : List Value), Vals ys its → ys.length ≤ sizeLine → ∀ (h' : Heap) (c' : Nat), (∀ b o', s.heap.get? b = some o' → h'.get? b = some o') →
      h'.get? s.heap.objs.size = some { cls := .type "list", dict := none, data := .seq its.toArray c', slots := #[] } → EP X pins σ Q (.ref s.heap.objs.size) { s with heap := h' } := fun its r' hz h' c' kp e =>
    ⟨.ref s.heap.objs.size, _, I.laid (t' := s.toks) kp (Nat.le_refl _) (show ObjOk X.prog X.w _ h' _ (.lst ys) from ⟨hz, its, c', r', e⟩), rfl, q _ (I.hok.fresh (Nat.le_refl _)) (Nat.ne_of_gt I.big)⟩
  rcases hq with hq | hq
  · obtain ⟨its, r', pl, hz⟩ := I.list hq
    have hlen := r'.length
    obtain ⟨o, ho, hc, n, hd⟩ := pl.isList
    exact call_list_seq p (.inl rfl) ho hc hd (fun h' c' kp e => fin its r' hz h' c' kp e) (by simp only [List.size_toArray] <;> omega)
  · obtain ⟨its, r', pl, hz⟩ := I.tuple hq
    have hlen := r'.length
    obtain ⟨o, ho, hc, n, hd⟩ := pl
    exact call_list_seq p (.inr rfl) ho hc hd (fun h' c' kp e => fin its r' hz h' c' kp e) (by simp only [List.size_toArray] <;> omega)
/-! ### lists of things beside [] (wants odd0) -/
def rNeNil (K : PySem.W.Frag) : R2 := fun x y H Q => ∃ a b ys, x = .ref a ∧ y = .ref b ∧ SqL K H a ys ∧ SqL K H b [] ∧ Q (.bl (!ys.isEmpty)) H
def rEqNil (K : PySem.W.Frag) : R2 := fun x y H Q => ∃ a b ys, x = .ref a ∧ y = .ref b ∧ SqL K H a ys ∧ SqL K H b [] ∧ Q (.bl ys.isEmpty) H
theorem op_neNil {X : Cx} {K : PySem.W.Frag} (hu : X.A.units + 64 < cLine) (eK : X.K = K := by rfl) : OpR X (compareOp .NotEq) (rNeNil K) := by
  cases eK
  intro pins s σ H x y v u Q I rx ry h
  obtain ⟨a, b, ys, rfl, rfl, ha, hb, q⟩ := h
  cases rx
  cases ry
  obtain ⟨its, rv, hl, _⟩ := I.list ha
  obtain ⟨its2, rv2, hl2, _⟩ := I.list hb
  cases rv2
  cases rv with
  | nil => exact SeqAt.RcNeAt.lists (e := fun _ => true) hl.isList hl2.isList rfl (by omega) (fun j h1 h2 => absurd h1 (Nat.not_lt_zero _)) _ _ _ _ ⟨.bl _, H, I, rfl, q⟩
  | cons r rs => exact SeqAt.RcNeAt.lists_lengths hl.isList hl2.isList (by simp) (by omega) _ _ _ _ ⟨.bl _, H, I, rfl, q⟩
theorem op_eqNil {X : Cx} {K : PySem.W.Frag} (hu : X.A.units + 64 < cLine) (eK : X.K = K := by rfl) : OpR X (compareOp .Eq) (rEqNil K) := by
  cases eK
  intro pins s σ H x y v u Q I rx ry h
  obtain ⟨a, b, ys, rfl, rfl, ha, hb, q⟩ := h
  cases rx
  cases ry
  obtain ⟨its, rv, hl, _⟩ := I.list ha
  obtain ⟨its2, rv2, hl2, _⟩ := I.list hb
  cases rv2
  cases rv with
  | nil => exact SeqAt.RcAt.lists (e := fun _ => true) hl.isList hl2.isList rfl (by omega) (fun j h1 h2 => absurd h1 (Nat.not_lt_zero _)) _ _ _ _ ⟨.bl _, H, I, rfl, q⟩
  | cons r rs => exact SeqAt.RcAt.lists_lengths hl.isList hl2.isList (by simp) (by omega) _ _ _ _ ⟨.bl _, H, I, rfl, q⟩
/-! sizes of things -/
mutual
/-- the greatest number in a thing, by its amount -/
def ib : PyData → Nat
  | .int i => i.natAbs
  | .list xs => ibs xs
  | .tuple xs => ibs xs
  | .dict kvs => ibk kvs
  | _ => 0
def ibs : List PyData → Nat
  | [] => 0
  | x :: xs => max (ib x) (ibs xs)
def ibk : List (PyData × PyData) → Nat
  | [] => 0
  | (k, v) :: r => max (max (ib k) (ib v)) (ibk r)
end
mutual
theorem ib_sh : ∀ d : PyData, ib d ≤ 10 ^ 100 → d.showable = true
  | .none, _ => rfl
  | .bool _, _ => rfl
  | .str _, _ => rfl
  | .int i, h => by
    have h : i.natAbs ≤ 10 ^ 100 := h
    have : i.natAbs.log2 < 1920 := log_lt (by decide) (Nat.lt_of_le_of_lt h (by decide))
    simpa [PyData.showable] using this
  | .list xs, h => ibs_sh xs h
  | .tuple xs, h => ibs_sh xs h
  | .dict kvs, h => ibk_sh kvs h
theorem ibs_sh : ∀ xs : List PyData, ibs xs ≤ 10 ^ 100 → PyData.showableAll xs = true
  | [], _ => rfl
  | x :: xs, h => by
    have h : max (ib x) (ibs xs) ≤ 10 ^ 100 := h
    have h1 := ib_sh x (Nat.le_trans (Nat.le_max_left _ _) h)
    have h2 := ibs_sh xs (Nat.le_trans (Nat.le_max_right _ _) h)
    simp only [PyData.showableAll, h1, h2, Bool.and_self]
theorem ibk_sh : ∀ kvs : List (PyData × PyData), ibk kvs ≤ 10 ^ 100 → PyData.showableKv kvs = true
  | [], _ => rfl
  | (k, v) :: r, h => by
    have h : max (max (ib k) (ib v)) (ibk r) ≤ 10 ^ 100 := h
    have h1 := ib_sh k (Nat.le_trans (Nat.le_trans (Nat.le_max_left _ _) (Nat.le_max_left _ _)) h)
    have h2 := ib_sh v (Nat.le_trans (Nat.le_trans (Nat.le_max_right _ _) (Nat.le_max_left _ _)) h)
    have h3 := ibk_sh r (Nat.le_trans (Nat.le_max_right _ _) h)
    simp only [PyData.showableKv, h1, h2, h3, Bool.and_self]
end
/-- depth, length when shown, greatest number -/
structure Wg (d : PyData) (n c b : Nat) : Prop where
  dep : d.depth ≤ n
  len : wt d ≤ c
  big : ib d ≤ b
theorem Wg.mono {d : PyData} {n c b n' c' b' : Nat} (w : Wg d n c b) (h1 : n ≤ n') (h2 : c ≤ c') (h3 : b ≤ b') : Wg d n' c' b' := ⟨Nat.le_trans w.dep h1, Nat.le_trans w.len h2, Nat.le_trans w.big h3⟩
structure Wgs (ds : List PyData) (n c b : Nat) : Prop where
  dep : PyData.depthAll ds ≤ n
  len : wts ds ≤ c
  big : ibs ds ≤ b
theorem Wgs.nil {n c b : Nat} : Wgs [] n c b := ⟨Nat.zero_le _, Nat.zero_le _, Nat.zero_le _⟩
theorem Wgs.cons {d : PyData} {ds : List PyData} {n c c' b : Nat} (h : Wg d n c b) (t : Wgs ds n c' b) : Wgs (d :: ds) n (c + 4 + c') b :=
  ⟨by show max d.depth (PyData.depthAll ds) ≤ n; have := h.dep; have := t.dep; omega, by show wt d + 4 + wts ds ≤ _; have := h.len; have := t.len; omega, by show max (ib d) (ibs ds) ≤ b; have := h.big; have := t.big; omega⟩
theorem wts_app : ∀ (xs ys : List PyData), wts (xs ++ ys) = wts xs + wts ys
  | [], ys => by show wts ys = 0 + wts ys; omega
  | x :: xs, ys => by show wt x + 4 + wts (xs ++ ys) = wt x + 4 + wts xs + wts ys; rw [wts_app xs ys]; omega
theorem ibs_app : ∀ (xs ys : List PyData), ibs (xs ++ ys) = max (ibs xs) (ibs ys)
  | [], ys => by show ibs ys = max 0 (ibs ys); omega
  | x :: xs, ys => by show max (ib x) (ibs (xs ++ ys)) = max (max (ib x) (ibs xs)) (ibs ys); rw [ibs_app xs ys]; omega
theorem dps_app : ∀ (xs ys : List PyData), PyData.depthAll (xs ++ ys) = max (PyData.depthAll xs) (PyData.depthAll ys)
  | [], ys => by show PyData.depthAll ys = max 0 _; omega
  | x :: xs, ys => by show max x.depth (PyData.depthAll (xs ++ ys)) = max (max x.depth (PyData.depthAll xs)) _; rw [dps_app xs ys]; omega
theorem Wgs.app {xs ys : List PyData} {n c c' b : Nat} (h : Wgs xs n c b) (t : Wgs ys n c' b) : Wgs (xs ++ ys) n (c + c') b :=
  ⟨by rw [dps_app]; have := h.dep; have := t.dep; omega, by rw [wts_app]; have := h.len; have := t.len; omega, by rw [ibs_app]; have := h.big; have := t.big; omega⟩
theorem Wgs.sub {xs ys : List PyData} {n c b : Nat} (h : Wgs (xs ++ ys) n c b) : Wgs xs n c b ∧ Wgs ys n c b := by
  have h1 := h.dep
  have h2 := h.len
  have h3 := h.big
  rw [dps_app] at h1
  rw [wts_app] at h2
  rw [ibs_app] at h3
  exact ⟨⟨by omega, by omega, by omega⟩, ⟨by omega, by omega, by omega⟩⟩
theorem Wgs.mono {ds : List PyData} {n c b n' c' b' : Nat} (w : Wgs ds n c b) (h1 : n ≤ n') (h2 : c ≤ c') (h3 : b ≤ b') : Wgs ds n' c' b' := ⟨Nat.le_trans w.dep h1, Nat.le_trans w.len h2, Nat.le_trans w.big h3⟩
theorem Wg.tup {ds : List PyData} {n c b : Nat} (h : Wgs ds n c b) : Wg (.tuple ds) (n + 1) (c + 4) b := ⟨by show PyData.depthAll ds + 1 ≤ n + 1; have := h.dep; omega, by show wts ds + 4 ≤ c + 4; have := h.len; omega, h.big⟩
theorem Wg.lst {ds : List PyData} {n c b : Nat} (h : Wgs ds n c b) : Wg (.list ds) (n + 1) (c + 4) b := ⟨by show PyData.depthAll ds + 1 ≤ n + 1; have := h.dep; omega, by show wts ds + 4 ≤ c + 4; have := h.len; omega, h.big⟩
theorem Wg.untup {ds : List PyData} {n c b : Nat} (h : Wg (.tuple ds) n c b) : Wgs ds (n - 1) (c - 4) b := ⟨by have : PyData.depthAll ds + 1 ≤ n := h.dep; omega, by have : wts ds + 4 ≤ c := h.len; omega, h.big⟩
theorem Wgs.mem {ds : List PyData} {n c b : Nat} (h : Wgs ds n c b) {d : PyData} (hd : d ∈ ds) : Wg d n c b := by
  obtain ⟨xs, ys, rfl⟩ := List.append_of_mem hd
  have h2 := (h.sub).2
  refine ⟨?_, ?_, ?_⟩
  · have : max d.depth (PyData.depthAll ys) ≤ n := h2.dep
    omega
  · have : wt d + 4 + wts ys ≤ c := h2.len
    omega
  · have : max (ib d) (ibs ys) ≤ b := h2.big
    omega
theorem Wg.shw {d : PyData} {n c b : Nat} (w : Wg d n c b) (hb : b ≤ 10 ^ 100 := by decide) : d.showable = true := ib_sh d (Nat.le_trans w.big hb)
theorem Wg.sz {d : PyData} {n c b : Nat} (w : Wg d n c b) (hb : b ≤ 10 ^ 100 := by decide) (hc : c ≤ 10000000 := by decide) : d.shown.length ≤ sizeLine := shown_wz (w.shw hb) (Nat.le_trans w.len hc)
theorem ofS_cps (s : String) : ∀ c ∈ (Str.ofString s).cps.toList, c < 16 ^ 8 := by
  intro c hc
  rw [Str.ofString_eq_toList] at hc
  have hc : c ∈ s.toList.map Char.toNat := by simpa using hc
  obtain ⟨ch, _, rfl⟩ := List.mem_map.mp hc
  exact Nat.lt_of_lt_of_le ch.val.toBitVec.isLt (by decide : 2 ^ 32 ≤ 16 ^ 8)
theorem strI_wt (i : Int) (h : i.natAbs ≤ 10 ^ 100) : wt (.str (toString i)) ≤ 20000 := by
  have h0 : i.natAbs.log2 < 1920 := log_lt (by decide) (Nat.lt_of_le_of_lt h (by decide))
  have h1 := PyProof.Rows.int_text_len_1921 h0
  have h2 := StrLaws.reprText_len (toString i : String) (ofS_cps _)
  show (reprText (toString i : String)).length + 1 ≤ 20000
  omega
/-! ### deeds, boards, asks as things: plain law (wants odd1) -/
def isNo : PyData → Bool
  | .none => true
  | _ => false
theorem isNo_inv {d : PyData} (h : isNo d = true) : d = .none := by cases d <;> first | rfl | cases h
theorem Th.no_dec {K : PySem.W.Frag} {p : Addr} {H : Hp} {v : V} {d : PyData} (h : Th K p H v d) : decide (v = V.non) = isNo d := by
  cases h <;> rfl
def isEnd (d : PyData) : Bool := isNo d || isWh d
def isN (n : Nat) : PyData → Bool
  | .tuple ds => decide (ds.length = n)
  | _ => false
theorem isN_tu {n : Nat} {d : PyData} (h : isN n d = true) : ∃ ds, d = .tuple ds ∧ ds.length = n := by
  cases d with
  | tuple ds => exact ⟨ds, rfl, of_decide_eq_true h⟩
  | _ => cases h
theorem isN_no {n : Nat} {d : PyData} (h : isTu d = false) : isN n d = false := by cases d <;> first | rfl | cases h
/-- ends in order -/
def okE : PyData → PyData → PyData → Bool
  | .int a, .int l, .int h => decide (l < h) || (decide (l = h) && decide (a = 0))
  | _, _, _ => true
def isDd : PyData → Bool
  | .tuple [a, l, h] => isWh a && (isEnd l && (isEnd h && okE a l h))
  | _ => false
theorem isDd_no {d : PyData} (h : isN 3 d = false) : isDd d = false := by
  cases d with
  | tuple ds =>
    match ds, h with
    | [], _ => rfl
    | [_], _ => rfl
    | [_, _], _ => rfl
    | [_, _, _], h => cases h
    | _ :: _ :: _ :: _ :: _, _ => rfl
  | _ => rfl
def isBd : PyData → Bool
  | .tuple ds => decide (1 ≤ ds.length) && (decide (ds.length ≤ 16) && ds.all isWh)
  | _ => false
theorem isBd_no {d : PyData} (h : isTu d = false) : isBd d = false := by cases d <;> first | rfl | cases h
theorem isBd_tu {d : PyData} (h : isBd d = true) : ∃ ds, d = .tuple ds ∧ 1 ≤ ds.length ∧ ds.length ≤ 16 ∧ ds.all isWh = true := by
  cases d with
  | tuple ds =>
    have h : (decide (1 ≤ ds.length) && (decide (ds.length ≤ 16) && ds.all isWh)) = true := h
    rw [Bool.and_eq_true, Bool.and_eq_true, decide_eq_true_iff, decide_eq_true_iff] at h
    exact ⟨ds, rfl, h.1, h.2.1, h.2.2⟩
  | _ => cases h
def wnD : PyData → Int
  | .int i => i
  | _ => -1
def isAk (nb : Nat) : PyData → Bool
  | .tuple [h, b, e] => isWh h && (isWh b && ((decide (0 ≤ wnD h) && decide (wnD h < 16)) && ((decide (0 ≤ wnD b) && decide (wnD b < (nb : Int))) && isDd e)))
  | _ => false
theorem isAk_no {nb : Nat} {d : PyData} (h : isN 3 d = false) : isAk nb d = false := by
  cases d with
  | tuple ds =>
    match ds, h with
    | [], _ => rfl
    | [_], _ => rfl
    | [_, _], _ => rfl
    | [_, _, _], h => cases h
    | _ :: _ :: _ :: _ :: _, _ => rfl
  | _ => rfl
def isAs (nb : Nat) : PyData → Bool
  | .tuple ds => ds.all (isAk nb)
  | _ => false
theorem isAs_no {nb : Nat} {d : PyData} (h : isTu d = false) : isAs nb d = false := by cases d <;> first | rfl | cases h
theorem len_map1 {tr : List (V × PyData)} : (tr.map fun t => t.1).length = tr.length := List.length_map _
theorem len_map2 {tr : List (V × PyData)} : (tr.map fun t => t.2).length = tr.length := List.length_map _
theorem take_all {tr : List (V × PyData)} (f : PyData → Bool) : ((tr.take (tr.map fun t => t.1).length).map fun t => f t.2).all id = (tr.map fun t => t.2).all f := by
  rw [len_map1, List.take_length, List.all_map, List.all_map] <;> rfl
theorem take_snocB {tr : List (V × PyData)} {i : Nat} {t : V × PyData} (f : PyData → Bool) (h : tr[i]? = some t) : (((tr.take i).map fun t => f t.2).map V.bl) ++ [V.bl (f t.2)] = ((tr.take (i + 1)).map fun t => f t.2).map V.bl := by
  rw [List.take_succ, h, List.map_append, List.map_append] <;> rfl
theorem dec_ne' {n m : Nat} (h : n ≠ m) : (!decide (V.int (n : Int) = V.int (m : Int))) = true := by rw [decide_eq_false fun z => h (by injection z with z; omega)] <;> rfl
def tlen : PyData → Nat
  | .tuple ds => ds.length
  | _ => 0
section
variable {P : Program} {w : World} {K : PySem.W.Frag} {mg : Str → Option Value} {base : Heap} (B : Bl K mg)
include B
/-! SPLIT -/
local macro_rules | `(tactic| walk_at "own") => `(tactic| fail)
local macro_rules | `(tactic| walk_at "sm") => `(tactic| first
  | with_reducible assumption
  | exact fun _ _ z => z
  | (apply Toy.same_bk; (with_reducible assumption); walk_at "sm")
  | solve_by_elim only [Toy.same_bk, *])
local macro_rules | `(tactic| walk_at "hp") => `(tactic| ((with_reducible refine (?_ : _ = some _)); first
  | with_reducible assumption
  | exact L2.upd_same
  | (apply Toy.hp_new; assumption; walk_at "hp")
  | (apply Toy.hp_at; (with_reducible assumption); walk_at "sm")))
local macro_rules | `(tactic| walk_at "sql") => `(tactic| first
  | with_reducible assumption
  | (apply L2.SqL.of; walk_at "hp")
  | (apply Toy.sql_at; (with_reducible assumption); walk_at "sm"))
local macro_rules | `(tactic| walk_at "sqt") => `(tactic| first
  | with_reducible assumption
  | (apply L2.SqT.of; walk_at "hp")
  | (apply Toy.sqt_at; (with_reducible assumption); walk_at "sm"))
local macro_rules | `(tactic| walk_at "ar") => `(tactic| first
  | with_reducible refine (?_ : (_ : Int) < _)
  | with_reducible refine (?_ : (_ : Int) ≤ _)
  | with_reducible refine (?_ : (_ : Nat) < _)
  | with_reducible refine (?_ : (_ : Nat) ≤ _)
  | with_reducible refine (?_ : (_ : Int) = _)
  | with_reducible refine (?_ : (_ : Nat) = _)
  | with_reducible refine (?_ : ¬ _)
  | with_reducible refine (?_ : _ ∧ _))
local macro_rules | `(tactic| walk_at "om") => `(tactic| (walk_at "ar"; omega))
local macro_rules | `(tactic| walk_at "num") => `(tactic| first
  | (walk_at "ar"; first
    | omega
    | (simp only [List.length_map, List.length_append, List.length_cons, List.length_nil, List.length_replicate, List.length_take, List.length_drop, List.length_range, List.length_set, List.length_reverse] <;> omega)
    | decide
    | (split <;> split <;> omega)
    | (split <;> omega))
  | decide)
local macro_rules | `(tactic| walk_at "side") => `(tactic| first
  | with_reducible rfl
  | walk_at "om"
  | with_reducible assumption
  | exact Toy.sz
  | (apply L2.SqL.of; walk_at "hp")
  | (apply L2.SqT.of; walk_at "hp")
  | (with_reducible apply Or.inl; walk_at "sql")
  | (with_reducible apply Or.inr; walk_at "sqt")
  | (with_reducible apply Exists.intro; walk_at "side")
  | walk_at "hp"
  | exact Eq.refl _
  | (apply Toy.lk1000; walk_at "num")
  | (apply Toy.lt1000; walk_at "num")
  | walk_at "num"
  | (apply Toy.lst_dp; apply L2.SqL.of; walk_at "hp")
  | (apply Toy.tupI_dp; apply L2.SqT.of; walk_at "hp")
  | exact Toy.ints_sh _
  | exact Toy.tupI_sh _
  | (apply L2.RgOk.of_le <;> walk_at "num")
  | (apply L2.atI_nat; assumption)
  | exact L2.Dp.lst (L2.SqL.of (by walk_at "hp")) L2.DpAll.nil
  | exact L2.Dp.tup (L2.SqT.of (by walk_at "hp")) L2.DpAll.nil
  | (apply Toy.ixn; walk_at "num")
  | exact Toy.tyL (by walk_at "hp")
  | walk_at "sql"
  | walk_at "sqt"
  | exact L2.ClsV.ty _
  | (apply L2.TyX.base; first | exact L2.TyOf.int _ | exact L2.TyOf.bl _ | exact L2.TyOf.non | exact L2.TyOf.str _ | (apply L2.TyOf.tup; walk_at "hp") | (apply L2.TyOf.lst; walk_at "hp"))
  | exact L2.kit_ty (r := true) (by decide +kernel)
  | exact L2.kit_ty (r := false) (by decide +kernel)
  | walk_at "own"
  | assumption
  | (walk_at "ar"; solve_by_elim only [Toy.hp_same, Toy.hp_new, L2.upd_same, *]))
local macro_rules | `(tactic| walk_at "go") => `(tactic| first
  | (apply And.intro; (focus (walk_at "side")); try walk_at "go")
  | (apply Exists.intro; rotate_left; (fail_if_success (with_reducible refine (?_ : Nat → _ → _))); (fail_if_success (with_reducible refine (?_ : L2.St → _ → _))); rotate_right; try walk_at "go")
  | (apply Or.inl; apply And.intro; (focus (walk_at "sql")); try walk_at "go")
  | (apply Or.inr; apply And.intro; (focus (walk_at "sqt")); try walk_at "go"))
/-! ENDM -/
/-- the stepper stops here -/
structure Kept (p : Prop) : Prop where
  ex : p
omit B in
theorem none_back {H H' : Hp} {a : Addr} (S : Same H H') (h : H' a = none) : H a = none := by
  cases e : H a with
  | none => rfl
  | some o =>
    rw [S _ _ e] at h
    cases h
omit B in
theorem But.fr {p E : Addr} {H H1 : Hp} {o : HO} (b : But p H H1) (hE : H E = none) : But p H (L2.upd H1 E o) := fun x u n h => by rw [upd_ne (ne_of_none h hE)]; exact b x u n h
omit B in
theorem but_fr {p E : Addr} {H H1 H2 : Hp} (b : But p H H1) (hE : H E = none) (c : But E H1 H2) : But p H H2 := fun x u n h => c _ _ (ne_of_none h hE) (b x u n h)
omit B in
theorem pot_keep {p : Addr} {H H' : Hp} (b : But p H H') (hp : PotAt H p) : ∀ t xs, H t = some (.tup xs) → H' t = some (.tup xs) := fun t xs e => by
  obtain ⟨_, _, h1, _⟩ := hp
  exact b _ _ (ne_of e h1 (by intro z; cases z)) e
omit B in
theorem PotAt.fr {H : Hp} {p E : Addr} {o : HO} (h : PotAt H p) (n : p ≠ E) : PotAt (L2.upd H E o) p := by
  obtain ⟨a, b, h1, h2⟩ := h
  exact ⟨a, b, by rw [upd_ne n]; exact h1, h2⟩
def spWhT (K : PySem.W.Frag) : Sp := fun vs H Q _ => ∃ (v : V) (d : PyData) (p : Addr), vs = [v] ∧ Th K p H v d ∧ Q (.bl (isWh d)) H
theorem k_is_whole (D : Df K mg "is_whole" s_is_whole ["thing"]) : Dn P w K mg base 1 "is_whole" ["thing"] (spWhT K) := by
  refine D.ok fun f fd F => okG0 F sc_is_whole (fun vs H Q E h => ?_) (fun cdv A outer s H vs Q E hr h => ⟨_, (pss_one (ps_ret (pe_and (pe_callB (kk (K := K) (F := rIsiN) (P := CallR _ _) call_isiN) (by rfl) B.isinstance_ (by decide +kernel) (pa_cons (pv 0) (pa_cons (pe_bltn (v := .ty "int") (u := .type "int") (by rfl) B.int_ (by decide +kernel) rfl) pa_nil))) (pe_one (pe_not (pe_callB (kk (K := K) (F := rIsiN) (P := CallR _ _) call_isiN) (by rfl) B.isinstance_ (by decide +kernel) (pa_cons (pv 0) (pa_cons (pe_bltn (v := .ty "bool") (u := .type "bool") (by rfl) B.bool_ (by decide +kernel) rfl) pa_nil)))))))), ?_⟩)
  · obtain ⟨v, d, p, rfl, _⟩ := h; rfl
  · obtain ⟨v, d, p, rfl, hd, q⟩ := h
    have ty := hd.ty
    have k1 := kit_in (K := K) d
    have k2 := kit_bl (K := K) d
    rw [isWh_eq] at q
    generalize isIn d = x at k1 q
    generalize isBl d = y at k2 q
    cases x
    all_goals
      try walk_at "go"
      first | exact q | exact ifF rfl q | exact ifT rfl q
def spRowT (K : PySem.W.Frag) : Sp := fun vs H Q _ => ∃ (v : V) (d : PyData) (p : Addr) (n : Nat), vs = [v, .int n] ∧ Th K p H v d ∧ Q (.bl (isN n d)) H
theorem k_is_row_of (D : Df K mg "is_row_of" s_is_row_of ["thing", "many"]) : Dn P w K mg base 1 "is_row_of" ["thing", "many"] (spRowT K) := by
  refine D.ok fun f fd F => okG0 F sc_is_row_of (fun vs H Q E h => ?_) (fun cdv A outer s H vs Q E hr h => ⟨_, (pss_one (ps_ret (pe_and (pe_callB (kk (K := K) (F := rIsiN) (P := CallR _ _) call_isiN) (by rfl) B.isinstance_ (by decide +kernel) (pa_cons (pv 0) (pa_cons (pe_bltn (v := .ty "tuple") (u := .type "tuple") (by rfl) B.tuple_ (by decide +kernel) rfl) pa_nil))) (pe_one (pe_cmpR op_eq (pe_callB (lenK (K := K)) (by rfl) B.len_ (by decide +kernel) (pa_cons (pv 0) pa_nil)) (pv 1) (nomark _)))))), ?_⟩)
  · obtain ⟨v, d, p, n, rfl, _⟩ := h; rfl
  · obtain ⟨v, d, p, n, rfl, hd, q⟩ := h
    have ty := hd.ty
    have k1 := kit_tu (K := K) d
    cases ed : isTu d with
    | false =>
      rw [ed] at k1
      rw [isN_no ed] at q
      try walk_at "go"
      first | exact q | exact ifF rfl q
    | true =>
      rw [ed] at k1
      obtain ⟨ds, rfl⟩ := isTu_inv ed
      obtain ⟨a, tr, rfl, rfl, ha, htr⟩ := hd.tup_inv
      have e1 : decide (V.int ((List.map (fun t : V × PyData => t.1) tr).length : Nat) = V.int n) = isN n (.tuple (tr.map fun t => t.2)) := by
        show _ = decide ((tr.map fun t => t.2).length = n)
        rw [len_map1, len_map2]
        by_cases c : tr.length = n
        · rw [decide_eq_true (by rw [c]), decide_eq_true c]
        · rw [decide_eq_false fun z => c (by injection z with z; omega), decide_eq_false c]
      rw [← e1] at q
      try walk_at "go"
      exact q
def spEndT (K : PySem.W.Frag) : Sp := fun vs H Q _ => ∃ (v : V) (d : PyData) (p : Addr), vs = [v] ∧ Th K p H v d ∧ Q (.bl (isEnd d)) H
theorem k_is_end (D : Df K mg "is_end" s_is_end ["thing"]) (D_is_whole : Dn P w K mg base 1 "is_whole" ["thing"] (spWhT K)) : Dn P w K mg base 2 "is_end" ["thing"] (spEndT K) := by
  refine D.ok fun f fd F => okG0 F sc_is_end (fun vs H Q E h => ?_) (fun cdv A outer s H vs Q E hr h => ⟨_, (pss_one (ps_ret (pe_or (pe_cmpR op_isN (pv 0) pe_non (nomark _)) (pe_one (pe_cD D_is_whole (hr.less (by decide)) rfl (pa_cons (pv 0) pa_nil)))))), ?_⟩)
  · obtain ⟨v, d, p, rfl, _⟩ := h; rfl
  · obtain ⟨v, d, p, rfl, hd, q⟩ := h
    try walk_at "go"
    rw [hd.no_dec]
    unfold isEnd at q
    cases e : isNo d with
    | true =>
      rw [e] at q
      refine ifT rfl ?_
      exact q
    | false =>
      rw [e, Bool.false_or] at q
      refine ifF rfl ?_
      try walk_at "go"
      exact q
def spDeedT (K : PySem.W.Frag) : Sp := fun vs H Q _ => ∃ (v : V) (d : PyData) (p : Addr), vs = [v] ∧ Th K p H v d ∧ Q (.bl (isDd d)) H
theorem k_is_deed (D : Df K mg "is_deed" s_is_deed ["thing"]) (D_is_whole : Dn P w K mg base 1 "is_whole" ["thing"] (spWhT K)) (D_is_row_of : Dn P w K mg base 1 "is_row_of" ["thing", "many"] (spRowT K)) (D_is_end : Dn P w K mg base 2 "is_end" ["thing"] (spEndT K)) : Dn P w K mg base 3 "is_deed" ["thing"] (spDeedT K) := by
  refine D.ok fun f fd F => okG0 F sc_is_deed (fun vs H Q E h => ?_) (fun cdv A outer s H vs Q E hr h => ⟨_, (pss_cons (ps_if (PW.pt (pw_or (pt_not (pt_val (pe_cD D_is_row_of (hr.less (by decide)) rfl (pa_cons (pv 0) (pa_cons pe_int pa_nil))))) (pw_or (pt_not (pt_val (pe_cD D_is_whole (hr.less (by decide)) rfl (pa_cons (pe_ix (kk (K := K) (F := rIxT) (P := IxR _) ix_tup) (pv 0) pe_int (fun _ _ => rfl)) pa_nil)))) (pw_or (pt_not (pt_val (pe_cD D_is_end (hr.less (by decide)) rfl (pa_cons (pe_ix (kk (K := K) (F := rIxT) (P := IxR _) ix_tup) (pv 0) pe_int (fun _ _ => rfl)) pa_nil)))) (pw_or1 (pt_not (pt_val (pe_cD D_is_end (hr.less (by decide)) rfl (pa_cons (pe_ix (kk (K := K) (F := rIxT) (P := IxR _) ix_tup) (pv 0) pe_int (fun _ _ => rfl)) pa_nil)))))))))
      (pss_one (ps_ret pe_bl))
      pss_nil)
    (pss_cons (ps_asg (pv 0) (kk (K := K) (F := fun K => gTup K 3 _) (P := PG _ _) (pg_tup rfl (pgs_cons (pg_name (i := 1) sc_is_deed.nd rfl (Or.inl rfl)) (pgs_cons (pg_name (i := 2) sc_is_deed.nd rfl (Or.inl rfl)) (pgs_cons (pg_name (i := 3) sc_is_deed.nd rfl (Or.inl rfl)) pgs_nil))))))
    (pss_cons (ps_if (PW.pt (pw_or (pt_cmpR op_isN (pv 2) pe_non (nomark _)) (pw_or1 (pt_cmpR op_isN (pv 3) pe_non (nomark _)))))
      (pss_one (ps_ret pe_bl))
      pss_nil)
    (pss_one (ps_ret (pe_or (pe_cmpR op_lt (pv 2) (pv 3) (nomark _)) (pe_one (pe_and (pe_cmpR op_eq (pv 2) (pv 3) (nomark _)) (pe_one (pe_cmpR op_eq (pv 1) pe_int (nomark _))))))))))), ?_⟩)
  · obtain ⟨v, d, p, rfl, _⟩ := h; rfl
  · obtain ⟨v, d, p, rfl, hd, q⟩ := h
    try walk_at "go"
    cases e0 : isN 3 d with
    | false =>
      rw [isDd_no e0] at q
      refine ifT rfl ?_
      try walk_at "go"
      exact q
    | true =>
      obtain ⟨ds, rfl, l3⟩ := isN_tu e0
      obtain ⟨a, tr, rfl, rfl, ha, htr⟩ := hd.tup_inv
      rw [len_map2] at l3
      obtain ⟨⟨xv, xd⟩, ⟨yv, yd⟩, ⟨zv, zd⟩, rfl⟩ : ∃ x y z, tr = [x, y, z] := by
        match tr, l3 with
        | [x, y, z], _ => exact ⟨x, y, z, rfl⟩
      have hx : Th K p H xv xd := htr _ List.mem_cons_self
      have hy : Th K p H yv yd := htr _ (List.mem_cons_of_mem _ List.mem_cons_self)
      have hz : Th K p H zv zd := htr _ (List.mem_cons_of_mem _ (List.mem_cons_of_mem _ List.mem_cons_self))
      have ha : H a = some (.tup [xv, yv, zv]) := ha
      have i0 : atI [xv, yv, zv] 0 = some xv := rfl
      have i1 : atI [xv, yv, zv] 1 = some yv := rfl
      have i2 : atI [xv, yv, zv] 2 = some zv := rfl
      replace q : Q (.bl (isWh xd && (isEnd yd && (isEnd zd && okE xd yd zd)))) H := q
      refine ifF rfl ?_
      try walk_at "go"
      cases e1 : isWh xd with
      | false =>
        rw [e1, Bool.false_and] at q
        refine ifT rfl ?_
        try walk_at "go"
        exact q
      | true =>
      rw [e1, Bool.true_and] at q
      refine ifF rfl ?_
      try walk_at "go"
      cases e2 : isEnd yd with
      | false =>
        rw [e2, Bool.false_and] at q
        refine ifT rfl ?_
        try walk_at "go"
        exact q
      | true =>
      rw [e2, Bool.true_and] at q
      refine ifF rfl ?_
      try walk_at "go"
      cases e3 : isEnd zd with
      | false =>
        rw [e3, Bool.false_and] at q
        refine ifT rfl ?_
        try walk_at "go"
        exact q
      | true =>
      rw [e3, Bool.true_and] at q
      refine ifF rfl ?_
      obtain ⟨i, rfl⟩ := isWh_inv e1
      cases hx.int_inv
      have eno : ∀ {v : V} {d : PyData}, Th K p H v d → isEnd d = true → (v = .non ∧ d = .none) ∨ ∃ j, v = .int j ∧ d = .int j := fun {v d} h e => by
        cases h with
        | non => exact .inl ⟨rfl, rfl⟩
        | int j => exact .inr ⟨j, rfl, rfl⟩
        | _ => cases e
      rcases eno hy e2 with ⟨rfl, rfl⟩ | ⟨l, rfl, rfl⟩
      · try walk_at "go"
        refine ifT rfl (ifT rfl ?_)
        try walk_at "go"
        exact q
      · rcases eno hz e3 with ⟨rfl, rfl⟩ | ⟨u, rfl, rfl⟩
        · try walk_at "go"
          refine ifT rfl ?_
          try walk_at "go"
          exact q
        · replace q : Q (.bl (decide (l < u) || (decide (l = u) && decide (i = 0)))) H := q
          try walk_at "go"
          refine ite2 (fun c1 => ?_) (fun c1 => ?_)
          · rw [c1, Bool.true_or] at q
            exact q
          · rw [Bool.eq_false_iff.mpr c1, Bool.false_or] at q
            try walk_at "go"
            by_cases c2 : l = u
            · rw [decide_eq_true c2, Bool.true_and] at q
              refine ifT (decide_eq_true (by rw [c2])) ?_
              try walk_at "go"
              have e4 : decide (V.int i = V.int 0) = decide (i = 0) := by
                by_cases c3 : i = 0
                · rw [decide_eq_true c3, c3, decide_eq_true rfl]
                · rw [decide_eq_false c3, decide_eq_false fun z => c3 (V.int.inj z)]
              rw [← e4] at q
              exact q
            · rw [decide_eq_false c2, Bool.false_and] at q
              refine ifF (decide_eq_false fun z => c2 (V.int.inj z)) ?_
              exact q
def spWhT2 (K : PySem.W.Frag) : Sp := fun vs H Q _ => ∃ (v : V) (d : PyData) (p : Addr), vs = [v] ∧ Th K p H v d ∧ Q (.bl (isWh d)) H
theorem k__law_whole (D : Df K mg "_law_whole" s__law_whole ["_law_thing"]) : Dn P w K mg base 1 "_law_whole" ["_law_thing"] (spWhT2 K) := by
  refine D.ok fun f fd F => okG0 F sc__law_whole (fun vs H Q E h => ?_) (fun cdv A outer s H vs Q E hr h => ⟨_, (pss_one (ps_ret (pe_and (pe_callB (kk (K := K) (F := rIsiN) (P := CallR _ _) call_isiN) (by rfl) B.isinstance_ (by decide +kernel) (pa_cons (pv 0) (pa_cons (pe_bltn (v := .ty "int") (u := .type "int") (by rfl) B.int_ (by decide +kernel) rfl) pa_nil))) (pe_one (pe_not (pe_callB (kk (K := K) (F := rIsiN) (P := CallR _ _) call_isiN) (by rfl) B.isinstance_ (by decide +kernel) (pa_cons (pv 0) (pa_cons (pe_bltn (v := .ty "bool") (u := .type "bool") (by rfl) B.bool_ (by decide +kernel) rfl) pa_nil)))))))), ?_⟩)
  · obtain ⟨v, d, p, rfl, _⟩ := h; rfl
  · obtain ⟨v, d, p, rfl, hd, q⟩ := h
    have ty := hd.ty
    have k1 := kit_in (K := K) d
    have k2 := kit_bl (K := K) d
    rw [isWh_eq] at q
    generalize isIn d = x at k1 q
    generalize isBl d = y at k2 q
    cases x
    all_goals
      try walk_at "go"
      first | exact q | exact ifF rfl q | exact ifT rfl q
def spLDeedT (K : PySem.W.Frag) : Sp := fun vs H Q _ => ∃ (v : V) (d : PyData) (p : Addr), vs = [v] ∧ Th K p H v d ∧ ∀ H', Same H H' → Q (.bl (isDd d)) H'
theorem k__law_is_deed (D : Df K mg "_law_is_deed" s__law_is_deed ["_law_thing"]) (D__law_whole : Dn P w K mg base 1 "_law_whole" ["_law_thing"] (spWhT2 K)) : Dn P w K mg base 3 "_law_is_deed" ["_law_thing"] (spLDeedT K) := by
  refine D.ok fun f fd F => okG0 F sc__law_is_deed (fun vs H Q E h => ?_) (fun cdv A outer s H vs Q E hr h => ⟨_, (pss_cons (ps_if (PW.pt (pw_or (pt_not (pt_val (pe_callB (kk (K := K) (F := rIsiN) (P := CallR _ _) call_isiN) (by rfl) B.isinstance_ (by decide +kernel) (pa_cons (pv 0) (pa_cons (pe_bltn (v := .ty "tuple") (u := .type "tuple") (by rfl) B.tuple_ (by decide +kernel) rfl) pa_nil))))) (pw_or (pt_cmpR op_ne (pe_callB (lenK (K := K)) (by rfl) B.len_ (by decide +kernel) (pa_cons (pv 0) pa_nil)) pe_int (nomark _)) (pw_or1 (pt_not (pt_val (pe_cD D__law_whole (hr.less (by decide)) rfl (pa_cons (pe_ix (kk (K := K) (F := rIxT) (P := IxR _) ix_tup) (pv 0) pe_int (fun _ _ => rfl)) pa_nil))))))))
      (pss_one (ps_ret pe_bl))
      pss_nil)
    (pss_cons (ps_if (pt_not (pt_val (pe_callB (kk (K := K) (F := rAll) (P := CallR _ _) (cr_all rfl)) (by rfl) B.all_ (by decide +kernel) (pa_cons (pe_lc (own := [("_law_end", 1)]) (g := gName 1) (tt := tYes) rfl sc__law_is_deed.nd (kk (K := K) (F := fun K => iTup K _) (P := PI _ _ _) (pi_tup (pe_slice sl_tupU (pv 0) (po_some pe_int) po_none))) (blkOk_by (own := [("_law_end", 1)]) (N := ["_law_thing", "_law_end"]) (sc := defScope s__law_is_deed) (by decide +kernel)) (fun _ _ _ _ _ => (pg_name (i := 1) sc__law_is_deed.nd rfl (Or.inl rfl))) (fun _ _ _ _ _ => pts_nil) (fun _ _ _ _ _ => (pe_or (pe_cmpR op_isN (pv 1) pe_non (nomark _)) (pe_one (pe_cD D__law_whole (hr.less (by decide)) rfl (pa_cons (pv 1) pa_nil)))))) pa_nil))))
      (pss_one (ps_ret pe_bl))
      pss_nil)
    (pss_cons (ps_if (PW.pt (pw_or (pt_cmpR op_isN (pe_ix (kk (K := K) (F := rIxT) (P := IxR _) ix_tup) (pv 0) pe_int (fun _ _ => rfl)) pe_non (nomark _)) (pw_or1 (pt_cmpR op_isN (pe_ix (kk (K := K) (F := rIxT) (P := IxR _) ix_tup) (pv 0) pe_int (fun _ _ => rfl)) pe_non (nomark _)))))
      (pss_one (ps_ret pe_bl))
      pss_nil)
    (pss_one (ps_ret (pe_or (pe_cmpR op_lt (pe_ix (kk (K := K) (F := rIxT) (P := IxR _) ix_tup) (pv 0) pe_int (fun _ _ => rfl)) (pe_ix (kk (K := K) (F := rIxT) (P := IxR _) ix_tup) (pv 0) pe_int (fun _ _ => rfl)) (nomark _)) (pe_one (pe_and (pe_cmpR op_eq (pe_ix (kk (K := K) (F := rIxT) (P := IxR _) ix_tup) (pv 0) pe_int (fun _ _ => rfl)) (pe_ix (kk (K := K) (F := rIxT) (P := IxR _) ix_tup) (pv 0) pe_int (fun _ _ => rfl)) (nomark _)) (pe_one (pe_cmpR op_eq (pe_ix (kk (K := K) (F := rIxT) (P := IxR _) ix_tup) (pv 0) pe_int (fun _ _ => rfl)) pe_int (nomark _))))))))))), ?_⟩)
  · obtain ⟨v, d, p, rfl, _⟩ := h; rfl
  · obtain ⟨v, d, p, rfl, hd, q⟩ := h
    have ty := hd.ty
    have k1 := kit_tu (K := K) d
    cases e0 : isN 3 d with
    | false =>
      rw [isDd_no e0] at q
      cases ed : isTu d with
      | false =>
        rw [ed] at k1
        try walk_at "go"
        refine ifT rfl ?_
        try walk_at "go"
        exact q _ (Same.refl _)
      | true =>
        rw [ed] at k1
        obtain ⟨ds, rfl⟩ := isTu_inv ed
        obtain ⟨a, tr, rfl, rfl, ha, htr⟩ := hd.tup_inv
        have l3 : (tr.map fun t => t.1).length ≠ 3 := fun z => by
          have e0 : decide ((tr.map fun t => t.2).length = 3) = false := e0
          rw [len_map2] at e0
          rw [len_map1] at z
          exact of_decide_eq_false e0 z
        try walk_at "go"
        refine ifT (dec_ne' l3) ?_
        try walk_at "go"
        exact q _ (Same.refl _)
    | true =>
      obtain ⟨ds, rfl, l3⟩ := isN_tu e0
      obtain ⟨a, tr, rfl, rfl, ha, htr⟩ := hd.tup_inv
      rw [len_map2] at l3
      obtain ⟨⟨xv, xd⟩, ⟨yv, yd⟩, ⟨zv, zd⟩, rfl⟩ : ∃ x y z, tr = [x, y, z] := by
        match tr, l3 with
        | [x, y, z], _ => exact ⟨x, y, z, rfl⟩
      have hx : Th K p H xv xd := htr _ List.mem_cons_self
      have hy : Th K p H yv yd := htr _ (List.mem_cons_of_mem _ List.mem_cons_self)
      have hz : Th K p H zv zd := htr _ (List.mem_cons_of_mem _ (List.mem_cons_of_mem _ List.mem_cons_self))
      have ha : H a = some (.tup [xv, yv, zv]) := ha
      have i0 : atI [xv, yv, zv] 0 = some xv := rfl
      have i1 : atI [xv, yv, zv] 1 = some yv := rfl
      have i2 : atI [xv, yv, zv] 2 = some zv := rfl
      replace q : ∀ H', Same H H' → Q (.bl (isWh xd && (isEnd yd && (isEnd zd && okE xd yd zd)))) H' := q
      have k1 : PySem.W.kitOne K (.type (tyD (.tuple [xd, yd, zd]))) (.type "tuple") = some true := k1
      have ty : TyN K H (.ref a) (.type (tyD (.tuple [xd, yd, zd]))) := ty
      try walk_at "go"
      cases e1 : isWh xd with
      | false =>
        rw [e1] at q
        refine ifT rfl ?_
        try walk_at "go"
        exact q _ (Same.refl _)
      | true =>
      rw [e1] at q
      refine ifF rfl ?_
      try walk_at "go"
      intro T H1 S1 oT
      have oT : H1 T = some (.tup [yv, zv]) := oT
      try walk_at "go"
      intro D hD
      refine lc_tup (K := K) (a := T) (xs := [yv, zv]) (fun i H' => Kept (Same H1 H' ∧ H' D = some (.lst ((([isEnd yd, isEnd zd]).take i).map V.bl)))) ⟨same_new hD _, upd_same⟩ (fun i H' _ h => SqT.of (h.ex.1 _ _ oT)) ?_ ?_
      · rintro i y H2 hi ⟨S2, hD2⟩
        have hyz : ∃ d2, Th K p H2 y d2 ∧ [isEnd yd, isEnd zd][i]? = some (isEnd d2) := by
          match i, hi with
          | 0, hi => cases (Option.some.inj hi); exact ⟨yd, hy.same (S1.trans S2), rfl⟩
          | 1, hi => cases (Option.some.inj hi); exact ⟨zd, hz.same (S1.trans S2), rfl⟩
          | n + 2, hi => simp at hi
        obtain ⟨d2, h2, h3⟩ := hyz
        have ln : ((([isEnd yd, isEnd zd]).take i).map V.bl).length ≤ 2 := by rw [List.length_map, List.length_take]; show min i 2 ≤ 2; omega
        have e4 := h2.no_dec
        have fin : ∀ b : Bool, isEnd d2 = b → Kept (Same H1 (upd H2 D (.lst ((([isEnd yd, isEnd zd]).take i).map V.bl ++ [V.bl b]))) ∧ (upd H2 D (.lst ((([isEnd yd, isEnd zd]).take i).map V.bl ++ [V.bl b]))) D = some (.lst ((([isEnd yd, isEnd zd]).take (i + 1)).map V.bl))) := fun b e => ⟨but_same hD S2 But.upd, by rw [upd_same, List.take_succ, h3, e, List.map_append] <;> rfl⟩
        try walk_at "go"
        rw [e4]
        cases e5 : isNo d2 with
        | true =>
          refine ifT rfl ?_
          try walk_at "go"
          exact fin true (by unfold isEnd; rw [e5] <;> rfl)
        | false =>
          refine ifF rfl ?_
          try walk_at "go"
          exact fin (isWh d2) (by unfold isEnd; rw [e5] <;> rfl)
      · rintro H2 ⟨S2, hD2⟩
        try walk_at "go"
        cases e2 : isEnd yd with
        | false =>
          rw [e2] at q
          refine ifT rfl ?_
          try walk_at "go"
          exact q _ (S1.trans S2)
        | true =>
        cases e3 : isEnd zd with
        | false =>
          rw [e2, e3] at q
          refine ifT rfl ?_
          try walk_at "go"
          exact q _ (S1.trans S2)
        | true =>
        rw [e2, e3] at q
        refine ifF rfl ?_
        obtain ⟨i, rfl⟩ := isWh_inv e1
        cases hx.int_inv
        have eno : ∀ {v : V} {d : PyData}, Th K p H v d → isEnd d = true → (v = .non ∧ d = .none) ∨ ∃ j, v = .int j ∧ d = .int j := fun {v d} h e => by
          cases h with
          | non => exact .inl ⟨rfl, rfl⟩
          | int j => exact .inr ⟨j, rfl, rfl⟩
          | _ => cases e
        have ha2 := S2 _ _ (S1 _ _ ha)
        have S12 := S1.trans S2
        rcases eno hy e2 with ⟨rfl, rfl⟩ | ⟨l, rfl, rfl⟩
        · try walk_at "go"
          refine ifT rfl (ifT rfl ?_)
          try walk_at "go"
          exact q _ S12
        · rcases eno hz e3 with ⟨rfl, rfl⟩ | ⟨u, rfl, rfl⟩
          · try walk_at "go"
            refine ifT rfl ?_
            try walk_at "go"
            exact q _ S12
          · replace q : ∀ H', Same H H' → Q (.bl (decide (l < u) || (decide (l = u) && decide (i = 0)))) H' := q
            try walk_at "go"
            replace q := q _ S12
            try walk_at "go"
            refine ite2 (fun c1 => ?_) (fun c1 => ?_)
            · rw [c1, Bool.true_or] at q
              exact q
            · rw [Bool.eq_false_iff.mpr c1, Bool.false_or] at q
              try walk_at "go"
              by_cases c2 : l = u
              · rw [decide_eq_true c2, Bool.true_and] at q
                refine ifT (decide_eq_true (by rw [c2])) ?_
                try walk_at "go"
                have e4 : decide (V.int i = V.int 0) = decide (i = 0) := by
                  by_cases c3 : i = 0
                  · rw [decide_eq_true c3, c3, decide_eq_true rfl]
                  · rw [decide_eq_false c3, decide_eq_false fun z => c3 (V.int.inj z)]
                rw [← e4] at q
                exact q
              · rw [decide_eq_false c2, Bool.false_and] at q
                refine ifF (decide_eq_false fun z => c2 (V.int.inj z)) ?_
                exact q
/-! SPLIT -/
/-! ### the law's own -/
def spPot (K : PySem.W.Frag) : Sp := fun vs H Q _ => ∃ (a : Addr) (ns : List Int) (k : Nat), vs = [.ref a, .int k] ∧ SqL K H a (ns.map V.int) ∧ k ≤ 60 ∧ ∀ p H', H p = none → Same H H' → PotAt H' p → Q (.ref p) H'
theorem k__law_pot (D : Df K mg "_law_pot" s__law_pot ["_law_script", "_law_k"]) : Dn P w K mg base 1 "_law_pot" ["_law_script", "_law_k"] (spPot K) := by
  refine D.ok fun f fd F => okG0 F sc__law_pot (fun vs H Q E h => ?_) (fun cdv A outer s H vs Q E hr h => ⟨_, (pss_cons (ps_set (i := 2) sc__law_pot.nd rfl (Or.inl rfl) (pe_ifExp (pt_cmpR op_lt (pv 1) (pe_callB (lenK (K := K)) (by rfl) B.len_ (by decide +kernel) (pa_cons (pv 0) pa_nil)) (nomark _)) (pe_ix (kk (K := K) (F := rIxL) (P := IxR _) ix_list) (pv 0) (pv 1) (fun _ _ => rfl)) pe_int))
    (pss_cons (ps_set (i := 3) sc__law_pot.nd rfl (Or.inl rfl) (pe_op op_add (pe_op op_add (pe_op op_mulX (pe_op op_mod (pe_callB call_abs (by rfl) B.abs_ (by decide +kernel) (pa_cons (pv 2) pa_nil)) pe_int) (pe_ix (kk (K := K) (F := rIxL) (P := IxR _) ix_list) (pe_lst (pa_cons pe_int (pa_cons pe_int (pa_cons pe_int (pa_cons pe_int (pa_cons pe_int (pa_cons pe_int (pa_cons pe_int pa_nil)))))))) (pe_op op_mod (pv 1) pe_int) (fun _ _ => rfl))) (pe_op op_mulX pe_int (pv 1))) pe_int))
    (pss_one (ps_ret (pe_lst (pa_cons (pe_callB (call_max2 rfl) (by rfl) B.max_ (by decide +kernel) (pa_cons pe_int (pa_cons (pe_op op_sub (pe_callB call_abs (by rfl) B.abs_ (by decide +kernel) (pa_cons (pv 2) pa_nil)) (pe_op op_pow pe_int pe_int)) pa_nil))) (pa_cons (pv 3) pa_nil))))))), ?_⟩)
  · obtain ⟨a, ns, k, rfl, _⟩ := h; rfl
  · obtain ⟨a, ns, k, rfl, hs, hk, q⟩ := h
    refine ⟨_, rfl, _, rfl, a, _, rfl, .inl hs, _, _, rfl, rfl, _, rfl, ?_⟩
    refine ifE (fun v H' => H' = H ∧ ∃ c : Int, v = .int c) ?_ (fun c Q' q' => ?_) (fun c Q' q' => q' _ _ ⟨rfl, 0, rfl⟩)
    · rintro _ _ ⟨rfl, c, rfl⟩
      obtain ⟨z, hz, hz0, hz1⟩ := menu7 (k % 7) (by omega)
      have hm1 := Int.emod_nonneg (if c < 0 then -c else c) (by decide : (2147483629 : Int) ≠ 0)
      have hm2 := Int.emod_lt_of_pos (if c < 0 then -c else c) (by decide : (0 : Int) < 2147483629)
      refine ⟨_, rfl, _, rfl, _, _, rfl, rfl, pj, sz, fun l hl => ⟨_, rfl, _, _, rfl, rfl, pj, l, _, _, _, rfl, rfl, SqL.of upd_same, at_of (j := k % 7) (by omega) hz, ?_⟩⟩
      refine ⟨_, _, rfl, rfl, mulx 31 6 (by omega) (by omega), _, rfl, _, _, rfl, rfl, mulx 10 6 (by decide) (by omega), _, _, rfl, rfl, _, _, rfl, rfl, ?_⟩
      refine ⟨_, rfl, _, rfl, _, _, rfl, rfl, ⟨by decide, by decide, by decide⟩, _, _, rfl, rfl, _, _, rfl, _, rfl, sz, fun p hp => ?_⟩
      have n1 := (same_new hl (.lst _)).free hp
      refine q p _ n1 ((same_new hl _).trans (same_new hp _)) ⟨_, _, upd_same, ?_, ?_, ?_⟩
      · split <;> omega
      · have h1 := Int.mul_nonneg hm1 (Int.le_of_lt hz0)
        omega
      · have h1 : (if c < 0 then -c else c) % 2147483629 * z ≤ 2147483629 * 41 := Int.mul_le_mul (Int.le_of_lt hm2) hz1 (Int.le_of_lt hz0) (by decide)
        omega
    · have c' : (k : Int) < ((ns.map V.int).length : Nat) := of_decide_eq_true c
      have hk2 : k < ns.length := by rw [List.length_map] at c'; omega
      refine ⟨_, rfl, _, rfl, a, _, _, _, rfl, rfl, hs, at_of (j := k) rfl (by rw [List.getElem?_map, List.getElem?_eq_getElem hk2] <;> rfl), ?_⟩
      exact q' _ _ ⟨rfl, _, rfl⟩
def spTake : Sp := fun vs H Q _ => ∃ (p : Addr) (m : Int), vs = [.ref p, .int m] ∧ PotAt H p ∧ 1 ≤ m ∧ m < 2 ^ 200 ∧ ∀ (d : Int) H', 0 ≤ d → d < m → But p H H' → PotAt H' p → Q (.int d) H'
theorem k__law_take (D : Df K mg "_law_take" s__law_take ["_law_pot_here", "_law_many"]) : Dn P w K mg base 1 "_law_take" ["_law_pot_here", "_law_many"] spTake := by
  refine D.ok fun f fd F => okG0 F sc__law_take (fun vs H Q E h => ?_) (fun cdv A outer s H vs Q E hr h => ⟨_, (pss_cons (ps_if (pt_cmpR op_gt (pe_ix (kk (K := K) (F := rIxL) (P := IxR _) ix_list) (pv 0) pe_int (fun _ _ => rfl)) pe_int (nomark _))
      (pss_cons (ps_asg (pe_callB call_divmodW (by rfl) B.divmod_ (by decide +kernel) (pa_cons (pe_ix (kk (K := K) (F := rIxL) (P := IxR _) ix_list) (pv 0) pe_int (fun _ _ => rfl)) (pa_cons (pv 1) pa_nil))) (kk (K := K) (F := fun K => gTup K 2 _) (P := PG _ _) (pg_tup rfl (pgs_cons (pg_sub (pv 0) pe_int set_list) (pgs_cons (pg_name (i := 2) sc__law_take.nd rfl (Or.inl rfl)) pgs_nil)))))
      (pss_one (ps_ret (pv 2))))
      pss_nil)
    (pss_cons (ps_asg (pe_op op_mod (pe_op op_add (pe_op op_mulX (pe_ix (kk (K := K) (F := rIxL) (P := IxR _) ix_list) (pv 0) pe_int (fun _ _ => rfl)) pe_int) pe_int) pe_int) (pg_sub (pv 0) pe_int set_list))
    (pss_one (ps_ret (pe_op op_mod (pe_op op_fdivW (pe_op op_mod (pe_op op_mulX (pe_ix (kk (K := K) (F := rIxL) (P := IxR _) ix_list) (pv 0) pe_int (fun _ _ => rfl)) (pe_ix (kk (K := K) (F := rIxL) (P := IxR _) ix_list) (pv 0) pe_int (fun _ _ => rfl))) pe_int) pe_int) (pv 1)))))), ?_⟩)
  · obtain ⟨p, m, rfl, _⟩ := h; rfl
  · obtain ⟨p, m, rfl, ⟨a, b, hp, ha, hb, hb2⟩, hm, hm2, q⟩ := h
    refine ⟨_, rfl, p, _, _, _, rfl, rfl, SqL.of hp, at_of (j := 0) rfl rfl, _, _, rfl, rfl, _, rfl, ite2 (fun c => ?_) (fun c => ?_)⟩
    · refine ⟨_, rfl, p, _, _, _, rfl, rfl, SqL.of hp, at_of (j := 0) rfl rfl, _, rfl, _, _, rfl, divp_small (by omega) (Int.lt_trans hm2 (by decide)), fun t ht => ?_⟩
      have np : p ≠ t := ne_of_none hp ht
      refine ⟨t, _, rfl, SqT.of upd_same, rfl, _, _, rfl, _, rfl, p, _, _, _, rfl, rfl, by rw [upd_ne np]; exact hp, rfl, _, _, rfl, rfl, _, rfl, ?_⟩
      have h1 := Int.emod_nonneg a (by omega : m ≠ 0)
      have h2 := Int.emod_lt_of_pos a (by omega : 0 < m)
      have h3 := Int.ediv_nonneg ha (by omega : 0 ≤ m)
      exact q _ _ h1 h2 ((same_but (same_new ht _)).trans But.upd) ⟨_, _, upd_same, h3, hb, hb2⟩
    · have hm1 := Int.emod_nonneg (b * 48271 + 11) (by decide : (2147483647 : Int) ≠ 0)
      have hm3 := Int.emod_lt_of_pos (b * 48271 + 11) (by decide : (0 : Int) < 2147483647)
      refine ⟨_, rfl, p, _, _, _, rfl, rfl, SqL.of hp, at_of (j := 1) rfl rfl, _, _, rfl, rfl, mulx 40 16 (by omega) (by decide), _, _, rfl, rfl, _, _, rfl, rfl, pj, ?_⟩
      refine ⟨_, rfl, p, _, _, _, rfl, rfl, hp, rfl, ?_⟩
      refine ⟨_, rfl, p, _, _, _, rfl, rfl, SqL.of upd_same, at_of (j := 1) rfl rfl, _, rfl, p, _, _, _, rfl, rfl, SqL.of upd_same, at_of (j := 1) rfl rfl, _, _, rfl, rfl, mulx 31 31 (by omega) (by omega), ?_⟩
      refine ⟨_, _, rfl, rfl, pj, _, _, rfl, rfl, ⟨by decide, by decide⟩, _, rfl, _, _, rfl, rfl, hm, ?_⟩
      exact q _ _ (Int.emod_nonneg _ (by omega)) (Int.emod_lt_of_pos _ (by omega)) But.upd ⟨_, _, upd_same, ha, hm1, by omega⟩
def spNumber : Sp := fun vs H Q _ => ∃ (p : Addr), vs = [.ref p] ∧ PotAt H p ∧ ∀ (n : Int) H', -(10 ^ 29) ≤ n → n ≤ 10 ^ 29 → But p H H' → PotAt H' p → Q (.int n) H'
theorem k__law_number (D : Df K mg "_law_number" s__law_number ["_law_pot_here"]) (D__law_take : Dn P w K mg base 1 "_law_take" ["_law_pot_here", "_law_many"] spTake) : Dn P w K mg base 2 "_law_number" ["_law_pot_here"] spNumber := by
  refine D.ok fun f fd F => okG0 F sc__law_number (fun vs H Q E h => ?_) (fun cdv A outer s H vs Q E hr h => ⟨_, (pss_cons (ps_set (i := 1) sc__law_number.nd rfl (Or.inl rfl) (pe_cD D__law_take (hr.less (by decide)) rfl (pa_cons (pv 0) (pa_cons pe_int pa_nil))))
    (pss_cons (ps_set (i := 2) sc__law_number.nd rfl (Or.inl rfl) (pe_cD D__law_take (hr.less (by decide)) rfl (pa_cons (pv 0) (pa_cons (pe_ix (kk (K := K) (F := rIxL) (P := IxR _) ix_list) (pe_lst (pa_cons pe_int (pa_cons pe_int (pa_cons pe_int (pa_cons (pe_op op_pow pe_int pe_int) (pa_cons (pe_op op_pow pe_int pe_int) (pa_cons (pe_op op_pow pe_int pe_int) pa_nil))))))) (pv 1) (fun _ _ => rfl)) pa_nil))))
    (pss_cons (ps_if (pt_cmpR op_gt (pv 1) pe_int (nomark _))
      (pss_one (ps_set (i := 2) sc__law_number.nd rfl (Or.inl rfl) (pe_op op_mod (pe_op op_mulX (pv 2) (pe_op op_pow pe_int pe_int)) (pe_op op_pow pe_int pe_int))))
      pss_nil)
    (pss_one (ps_ret (pe_op op_mulX (pv 2) (pe_op op_sub pe_int (pe_op op_mulX pe_int (pe_cD D__law_take (hr.less (by decide)) rfl (pa_cons (pv 0) (pa_cons pe_int pa_nil))))))))))), ?_⟩)
  · obtain ⟨p, rfl, _⟩ := h; rfl
  · obtain ⟨p, rfl, hp, q⟩ := h
    refine ⟨_, rfl, p, 6, rfl, hp, by decide, by decide, fun d H1 d0 d6 b1 p1 => ?_⟩
    obtain ⟨j, rfl⟩ : ∃ j : Nat, d = (j : Int) := ⟨d.toNat, by omega⟩
    obtain ⟨z, hz, z1, z2⟩ := menu6 j (by omega)
    refine ⟨_, rfl, ?_⟩
    refine ⟨_, _, rfl, rfl, ⟨by decide, by decide, by decide⟩, _, _, rfl, rfl, ⟨by decide, by decide, by decide⟩, _, _, rfl, rfl, ⟨by decide, by decide, by decide⟩, sz, fun l hl => ?_⟩
    refine ⟨_, rfl, l, _, _, _, rfl, rfl, SqL.of upd_same, at_of (j := j) rfl hz, p, z, rfl, p1.same (same_new hl _), z1, Int.lt_of_le_of_lt z2 (by decide), fun e H2 e0 e1 b2 p2 => ?_⟩
    have b12 : But p H H2 := b1.trans ((same_but (same_new hl _)).trans b2)
    have e2 : e < 10 ^ 29 := by omega
    have key : ∀ (e : Int), 0 ≤ e → e < 10 ^ 29 → ∀ r : Option V, tRet (tOp (rI CMulX fun i j => .int (i * j)) (tVar 2) (tOp (rI0 fun i j => .int (i - j)) (tC (.int 1)) (tOp (rI CMulX fun i j => .int (i * j)) (tC (.int 2)) (tCall spTake [] E0 (tCons (tVar 0) (tCons (tC (.int 2)) tNil))))))
        { nx := fun _ H' => Q .non H', rt := Q } [some (.ref p), r, some (.int e)] H2 := by
      intro e e0 e1 r
      refine ⟨_, rfl, _, rfl, p, 2, rfl, p2, by decide, by decide, fun c H3 c0 c2 b3 p3 => ⟨_, _, rfl, rfl, mulx 2 2 (by decide) (by omega), _, _, rfl, rfl, _, _, rfl, rfl, mulx 97 2 (by omega) (by omega), ?_⟩⟩
      refine q _ _ ?_ ?_ (b12.trans b3) p3
      · have : c = 0 ∨ c = 1 := by omega
        rcases this with rfl | rfl <;> omega
      · have : c = 0 ∨ c = 1 := by omega
        rcases this with rfl | rfl <;> omega
    refine ⟨_, rfl, _, _, rfl, rfl, _, rfl, ite2 (fun c => ?_) (fun c => ?_)⟩
    · refine ⟨_, rfl, _, _, rfl, rfl, ⟨by decide, by decide, by decide⟩, _, _, rfl, rfl, mulx 97 120 (by omega) (by decide), _, _, rfl, rfl, ⟨by decide, by decide, by decide⟩, _, _, rfl, rfl, pj, ?_⟩
      exact key _ (Int.emod_nonneg _ (by decide)) (Int.emod_lt_of_pos _ (by decide)) _
    · exact key _ e0 e2 _
def spDeed : Sp := fun vs H Q _ => ∃ (p : Addr), vs = [.ref p] ∧ PotAt H p ∧ ∀ (a : Addr) (d : Dd) H', But p H H' → PotAt H' p → H a = none → H' a = some (.tup d.vs) → d.In (10 ^ 29 + 3) → d.Ok → Q (.ref a) H'
theorem k__law_deed (D : Df K mg "_law_deed" s__law_deed ["_law_pot_here"]) (D__law_take : Dn P w K mg base 1 "_law_take" ["_law_pot_here", "_law_many"] spTake) (D__law_number : Dn P w K mg base 2 "_law_number" ["_law_pot_here"] spNumber) : Dn P w K mg base 3 "_law_deed" ["_law_pot_here"] spDeed := by
  refine D.ok fun f fd F => okG0 F sc__law_deed (fun vs H Q E h => ?_) (fun cdv A outer s H vs Q E hr h => ⟨_, (pss_cons (ps_set (i := 1) sc__law_deed.nd rfl (Or.inl rfl) (pe_cD D__law_take (hr.less (by decide)) rfl (pa_cons (pv 0) (pa_cons pe_int pa_nil))))
    (pss_cons (ps_set (i := 2) sc__law_deed.nd rfl (Or.inl rfl) (pe_op op_mulX (pe_cD D__law_number (hr.less (by decide)) rfl (pa_cons (pv 0) pa_nil)) (pe_callTy call_int1 (by rfl) B.int_ (by decide +kernel) (pa_cons (pe_cmpR op_gt (pe_cD D__law_take (hr.less (by decide)) rfl (pa_cons (pv 0) (pa_cons pe_int pa_nil))) pe_int (nomark _)) pa_nil))))
    (pss_cons (ps_set (i := 3) sc__law_deed.nd rfl (Or.inl rfl) (pe_cD D__law_number (hr.less (by decide)) rfl (pa_cons (pv 0) pa_nil)))
    (pss_cons (ps_if (pt_cmpR op_eq (pv 1) pe_int (nomark _))
      (pss_one (ps_ret (pe_tup (pa_cons (pv 2) (pa_cons pe_non (pa_cons pe_non pa_nil))))))
      pss_nil)
    (pss_cons (ps_if (pt_cmpR op_lt (pv 1) pe_int (nomark _))
      (pss_one (ps_ret (pe_ix (kk (K := K) (F := rIxL) (P := IxR _) ix_list) (pe_lst (pa_cons (pe_tup (pa_cons (pv 2) (pa_cons (pv 3) (pa_cons pe_non pa_nil)))) (pa_cons (pe_tup (pa_cons (pv 2) (pa_cons pe_non (pa_cons (pv 3) pa_nil)))) pa_nil))) (pe_op op_sub (pv 1) pe_int) (fun _ _ => rfl))))
      pss_nil)
    (pss_cons (ps_set (i := 4) sc__law_deed.nd rfl (Or.inl rfl) (pe_op op_add (pv 3) (pe_cD D__law_take (hr.less (by decide)) rfl (pa_cons (pv 0) (pa_cons pe_int pa_nil)))))
    (pss_cons (ps_if (pt_cmpR op_gt (pv 1) pe_int (nomark _))
      (pss_one (ps_set (i := 4) sc__law_deed.nd rfl (Or.inl rfl) (pe_cD D__law_number (hr.less (by decide)) rfl (pa_cons (pv 0) pa_nil))))
      pss_nil)
    (pss_one (ps_ret (pe_tup (pa_cons (pe_op op_mulX (pv 2) (pe_callTy call_int1 (by rfl) B.int_ (by decide +kernel) (pa_cons (pe_cmpR op_ne (pv 3) (pv 4) (nomark _)) pa_nil))) (pa_cons (pe_callB (call_min2 rfl) (by rfl) B.min_ (by decide +kernel) (pa_cons (pv 3) (pa_cons (pv 4) pa_nil))) (pa_cons (pe_callB (call_max2 rfl) (by rfl) B.max_ (by decide +kernel) (pa_cons (pv 3) (pa_cons (pv 4) pa_nil))) pa_nil))))))))))))), ?_⟩)
  · obtain ⟨p, rfl, _⟩ := h; rfl
  · obtain ⟨p, rfl, hp, q⟩ := h
    refine ⟨_, rfl, p, 7, rfl, hp, by decide, by decide, fun road H1 d0 d7 b1 p1 => ?_⟩
    refine ⟨_, rfl, p, rfl, p1, fun n H2 n0 n1 b2 p2 => ⟨_, rfl, p, 4, rfl, p2, by decide, by decide, fun c H3 c0 c4 b3 p3 => ⟨_, _, rfl, rfl, .inr ⟨_, rfl, ?_⟩⟩⟩⟩
    refine ⟨_, _, rfl, rfl, mulx 97 2 (by omega) (by split <;> decide), ?_⟩
    have ha : -(10 ^ 29) ≤ n * (if decide (0 < c) = true then (1 : Int) else 0) ∧ n * (if decide (0 < c) = true then (1 : Int) else 0) ≤ 10 ^ 29 := by split <;> omega
    obtain ⟨ha1, ha2⟩ := ha
    refine ⟨_, rfl, p, rfl, p3, fun one H4 o0 o1 b4 p4 => ?_⟩
    have b14 : But p H H4 := b1.trans (b2.trans (b3.trans b4))
    refine ⟨_, rfl, rfl, _, rfl, ite2 (fun _ => ?_) (fun _ => ?_)⟩
    · refine ⟨_, rfl, sz, fun a ha => ?_⟩
      have np : a ≠ p := fun e => by obtain ⟨_, _, h1, _⟩ := p4; rw [← e, ha] at h1; cases h1
      exact q a ⟨_, none, none⟩ _ (b14.trans (same_but (same_new ha _))) (p4.same (same_new ha _)) (b14.free np ha) upd_same (in_mk (by omega) (by omega) in_none in_none) (fun _ _ h => nomatch h)
    refine ⟨_, rfl, _, _, rfl, rfl, _, rfl, ite2 (fun c3 => ?_) (fun c3 => ?_)⟩
    · have c3' : road < 3 := of_decide_eq_true c3
      refine ⟨_, rfl, _, rfl, sz, fun a1 ha1 => ⟨_, rfl, _, rfl, sz, fun a2 ha2 => ⟨sz, fun l hl => ⟨_, rfl, _, _, rfl, rfl, ?_⟩⟩⟩⟩
      have e12 : a1 ≠ a2 := ne_of_none upd_same ha2
      have e1l : a1 ≠ l := ne_of_none (by rw [upd_ne e12]; exact upd_same) hl
      have e2l : a2 ≠ l := ne_of_none upd_same hl
      have S2 := (same_new ha1 (.tup [.int (n * (if decide (0 < c) = true then (1 : Int) else 0)), .int one, .non])).trans (same_new ha2 (.tup [.int (n * (if decide (0 < c) = true then (1 : Int) else 0)), .non, .int one]))
      have S3 := S2.trans (same_new hl (.lst [.ref a1, .ref a2]))
      have hp' : ∀ a, H4 a = none → a ≠ p := fun a ha e => by obtain ⟨_, _, h1, _⟩ := p4; rw [← e, ha] at h1; cases h1
      have f2 : H4 a2 = none := (same_new ha1 _).free ha2
      by_cases r1 : road = 1
      · subst r1
        refine ⟨l, _, _, _, rfl, rfl, SqL.of upd_same, at_of (j := 0) rfl rfl, ?_⟩
        exact q a1 ⟨_, some one, none⟩ _ (b14.trans (same_but S3)) (p4.same S3) (b14.free (hp' a1 ha1) ha1) (by rw [upd_ne e1l, upd_ne e12, upd_same] <;> rfl) (in_mk (by omega) (by omega) (in_some (by omega) (by omega)) in_none) (fun _ _ _ h => nomatch h)
      · have r2 : road = 2 := by
          have : road ≠ 0 := by intro e; subst e; simp_all
          omega
        subst r2
        refine ⟨l, _, _, _, rfl, rfl, SqL.of upd_same, at_of (j := 1) rfl rfl, ?_⟩
        exact q a2 ⟨_, none, some one⟩ _ (b14.trans (same_but S3)) (p4.same S3) (b14.free (hp' a2 f2) f2) (by rw [upd_ne e2l, upd_same] <;> rfl) (in_mk (by omega) (by omega) in_none (in_some (by omega) (by omega))) (fun _ _ h => nomatch h)
    refine ⟨_, rfl, _, rfl, p, 3, rfl, p4, by decide, by decide, fun m H5 m0 m3 b5 p5 => ⟨_, _, rfl, rfl, ?_⟩⟩
    have b15 := b14.trans b5
    have key : ∀ (add other : Int) (H6 : Hp), -(10 ^ 29) ≤ add → add ≤ 10 ^ 29 → But p H H6 → PotAt H6 p → -(10 ^ 29 + 3) ≤ other → other ≤ 10 ^ 29 + 3 → tRet (tTup (tCons (tOp (rI CMulX fun i j => V.int (i * j)) (tVar 2) (tCB (fun xs H Q => (∃ i, xs = [V.int i] ∧ Q (V.int i) H) ∨ ∃ k, xs = [V.bl k] ∧ Q (V.int (if k = true then 1 else 0)) H) (tCons (tOp rNe (tVar 3) (tVar 4)) tNil)))
        (tCons (tCB (fun xs H Q => ∃ i j, xs = [V.int i, V.int j] ∧ Q (V.int (if j < i then j else i)) H) (tCons (tVar 3) (tCons (tVar 4) tNil))) (tCons (tCB (fun xs H Q => ∃ i j, xs = [V.int i, V.int j] ∧ Q (V.int (if j > i then j else i)) H) (tCons (tVar 3) (tCons (tVar 4) tNil))) tNil))))
        { nx := fun _ H' => Q .non H', rt := Q } [some (.ref p), some (.int road), some (.int add), some (.int one), some (.int other)] H6 := by
      intro add other H6 ad1 ad2 b6 p6 o2 o3
      refine ⟨_, rfl, _, rfl, _, rfl, rfl, .inr ⟨_, rfl, ⟨_, _, rfl, rfl, mulx 97 2 (by omega) (by split <;> decide), _, rfl, _, rfl, _, _, rfl, _, rfl, _, rfl, _, _, rfl, sz, fun a ha => ?_⟩⟩⟩
      have np : a ≠ p := fun e => by obtain ⟨_, _, h1, _⟩ := p6; rw [← e, ha] at h1; cases h1
      refine q a ⟨_, some _, some _⟩ _ (b6.trans (same_but (same_new ha _))) (p6.same (same_new ha _)) (b6.free np ha) upd_same (in_mk ?_ ?_ (in_some ?_ ?_) (in_some ?_ ?_)) ?_
      · by_cases e : one = other
        · rw [if_neg (by simp [e])]; omega
        · rw [if_pos (by simp [e])]; omega
      · by_cases e : one = other
        · rw [if_neg (by simp [e])]; omega
        · rw [if_pos (by simp [e])]; omega
      · split <;> omega
      · split <;> omega
      · split <;> omega
      · split <;> omega
      · intro l h e1 e2
        cases e1; cases e2
        by_cases e : one = other
        · refine .inr ⟨?_, ?_⟩
          · split <;> split <;> omega
          · show _ * _ = (0 : Int)
            rw [if_neg (by simp [e])]; omega
        · left
          split <;> split <;> omega
    refine ⟨_, rfl, _, _, rfl, rfl, _, rfl, ite2 (fun _ => ?_) (fun _ => ?_)⟩
    · exact ⟨_, rfl, p, rfl, p5, fun o H6 o2 o3 b6 p6 => key _ o H6 ha1 ha2 (b15.trans b6) p6 (by omega) (by omega)⟩
    · exact key _ _ H5 ha1 ha2 b15 p5 (by omega) (by omega)
/-! SPLIT -/
omit B in
theorem wg_c {d : PyData} {b : Nat} (h1 : d.depth ≤ 2) (h2 : wt d ≤ 30000) (h3 : ib d ≤ 10 ^ 29) (hb : 10 ^ 29 ≤ b) : Wg d 2 30000 b := ⟨h1, h2, by omega⟩
def spOddN (K : PySem.W.Frag) : Sp := fun vs H Q _ => ∃ (p : Addr), vs = [.ref p] ∧ PotAt H p ∧ ∀ v d H', But p H H' → PotAt H' p → Th K p H' v d → Wg d 2 30000 (10 ^ 29) → Q v H'
theorem k__law_odd (D : Df K mg "_law_odd" s__law_odd ["_law_pot_here"]) (D__law_take : Dn P w K mg base 1 "_law_take" ["_law_pot_here", "_law_many"] spTake) : Dn P w K mg base 2 "_law_odd" ["_law_pot_here"] (spOddN K) := by
  refine D.ok fun f fd F => okG0 F sc__law_odd (fun vs H Q E h => ?_) (fun cdv A outer s H vs Q E hr h => ⟨_, (pss_cons (ps_set (i := 1) sc__law_odd.nd rfl (Or.inl rfl) (pe_lstS (pa_cons pe_non (pa_cons pe_bl (pa_cons pe_bl (pa_cons pe_str (pa_cons pe_str (pa_cons pe_str (pa_cons (pe_tup pa_nil) (pa_cons (pe_lstS pa_nil) (pa_cons pe_dnewK (pa_cons (pe_tup (pa_cons pe_int pa_nil)) (pa_cons (pe_lstS (pa_cons pe_int pa_nil)) (pa_cons (pe_disp (pps_cons pe_int pe_int pps_nil) (by rfl) (by rfl) (fun z => by cases z) (by decide)) (pa_cons pe_str (pa_cons (pe_tup (pa_cons pe_str (pa_cons pe_int pa_nil))) pa_nil))))))))))))))))
    (pss_cons (ps_set (i := 1) sc__law_odd.nd rfl (Or.inl rfl) (pe_op op_cat (pv 1) (pe_lstS (pa_cons (pe_dispN pe_int pe_int pe_non pe_int pe_int pe_int) (pa_cons pe_str pa_nil)))))
    (pss_one (ps_ret (pe_ix (kk (K := K) (F := rIxL) (P := IxR _) ix_list) (pv 1) (pe_cD D__law_take (hr.less (by decide)) rfl (pa_cons (pv 0) (pa_cons (pe_callB (lenK (K := K)) (by rfl) B.len_ (by decide +kernel) (pa_cons (pv 1) pa_nil)) pa_nil))) (fun _ _ => rfl)))))), ?_⟩)
  · obtain ⟨p, rfl, _⟩ := h; rfl
  · obtain ⟨p, rfl, hp, q⟩ := h
    try walk_at "go"
    intro t1 ht1
    generalize eH1 : upd _ t1 _ = H1
    have SH1 := newS eH1 ht1
    have ot1 := newO eH1
    try walk_at "go"
    intro M1 hM1
    generalize eH2 : upd _ M1 _ = H2
    have SH2 := newS eH2 hM1
    have oM1 := newO eH2
    intro s2
    try walk_at "go"
    intro D1 hD1
    generalize eH3 : upd _ D1 _ = H3
    have SH3 := newS eH3 hD1
    have oD1 := newO eH3
    try walk_at "go"
    intro t2 ht2
    generalize eH4 : upd _ t2 _ = H4
    have SH4 := newS eH4 ht2
    have ot2 := newO eH4
    try walk_at "go"
    intro M2 hM2
    generalize eH5 : upd _ M2 _ = H5
    have SH5 := newS eH5 hM2
    have oM2 := newO eH5
    intro s5
    try walk_at "go"
    intro D2 hD2
    generalize eH6 : upd _ D2 _ = H6
    have SH6 := newS eH6 hD2
    have oD2 := newO eH6
    try walk_at "go"
    refine ⟨(show _ = List.map (fun kv => (kV kv.1, kv.2)) [((Sum.inl 3 : Key), V.int 4)] from rfl), by show 1 ≤ 15; decide, ?_⟩
    generalize eH7 : upd H6 D2 (HO.dK (mergeK [] [((Sum.inl 3 : Key), V.int 4)])) = H7
    have S57 : Same H5 H7 := but_same hD2 SH6 (eH7 ▸ But.upd)
    have oD2' : H7 D2 = some (.dK [(Sum.inl 3, .int 4)]) := by rw [← eH7]; exact upd_same
    clear oD2
    try walk_at "go"
    intro t3 ht3
    generalize eH8 : upd _ t3 _ = H8
    have SH8 := newS eH8 ht3
    have ot3 := newO eH8
    try walk_at "go"
    intro L1 hL1
    generalize eH9 : upd _ L1 _ = H9
    have SH9 := newS eH9 hL1
    have oL1 := newO eH9
    intro s9
    try walk_at "go"
    intro DD hDD sDD
    generalize eH10 : upd H9 DD (DN DD) = H10
    have S10 : Same H9 H10 := eH10 ▸ same_new hDD _
    have oDD : H10 DD = some (DN DD) := by rw [← eH10]; exact upd_same
    have oL19 := S10 _ _ oL1
    try walk_at "go"
    intro Lb hLb
    generalize eH11 : upd _ Lb _ = H11
    have SH11 := newS eH11 hLb
    have oLb := newO eH11
    intro s11
    have oL111 := SH11 _ _ oL19
    try walk_at "go"
    intro Lc hLc
    generalize eH12 : upd _ Lc _ = H12
    have SH12 := newS eH12 hLc
    have oLc := newO eH12
    have S512 := S57.trans (SH8.trans (SH9.trans (S10.trans (SH11.trans SH12))))
    have p1 := hp.same SH1
    have p4 := hp.same (SH1.trans (SH2.trans (SH3.trans SH4)))
    have S012 := SH1.trans (SH2.trans (SH3.trans (SH4.trans (SH5.trans S512))))
    have p12 := hp.same S012
    have nM1 : M1 ≠ p := pot_ne p1 hM1
    have nM2 : M2 ≠ p := pot_ne p4 hM2
    have g1 := (SH2.trans (SH3.trans (SH4.trans (SH5.trans S512)))) _ _ ot1
    have g2 := (SH3.trans (SH4.trans (SH5.trans S512))) _ _ oM1
    have g3 := (SH4.trans (SH5.trans S512)) _ _ oD1
    have g4 := (SH5.trans S512) _ _ ot2
    have g5 := S512 _ _ oM2
    have g6 := (SH8.trans (SH9.trans (S10.trans (SH11.trans SH12)))) _ _ oD2'
    have g7 := (SH9.trans (S10.trans (SH11.trans SH12))) _ _ ot3
    have g8 := (SH11.trans SH12) _ _ oDD
    let tr0 : List (V × PyData) := [(.non, .none), (.bl true, .bool true), (.bl false, .bool false), (.str "", .str ""), (.str "3", .str "3"), (.str "look", .str "look"), (.ref t1, .tuple []), (.ref M1, .list []), (.ref D1, .dict []), (.ref t2, .tuple [.int 3]), (.ref M2, .list [.int 3]), (.ref D2, .dict [(.int 3, .int 4)]), (.str "None", .str "None"), (.ref t3, .tuple [.str "a", .int 1]), (.ref DD, .dict [(.int 0, .int 1), (.none, .int 2), (.int 7, .int 3)]), (.str "012", .str "012")]
    have all0 : ∀ t ∈ tr0, Th K p H12 t.1 t.2 ∧ Wg t.2 2 30000 (10 ^ 29) := fun t ht => by
      simp only [tr0, List.mem_cons, List.not_mem_nil, or_false] at ht
      rcases ht with rfl | rfl | rfl | rfl | rfl | rfl | rfl | rfl | rfl | rfl | rfl | rfl | rfl | rfl | rfl | rfl
      · exact ⟨.non, by dsimp only; decide, by dsimp only; decide, by dsimp only; decide⟩
      · exact ⟨.bl _, by dsimp only; decide, by dsimp only; decide, by dsimp only; decide⟩
      · exact ⟨.bl _, by dsimp only; decide, by dsimp only; decide, by dsimp only; decide⟩
      · exact ⟨.str _, by dsimp only; decide, by dsimp only; decide +kernel, by dsimp only; decide⟩
      · exact ⟨.str _, by dsimp only; decide, by dsimp only; decide +kernel, by dsimp only; decide⟩
      · exact ⟨.str _, by dsimp only; decide, by dsimp only; decide +kernel, by dsimp only; decide⟩
      · exact ⟨Th.tup (tr := []) g1 fun t h => absurd h List.not_mem_nil, by dsimp only; decide, by dsimp only; decide, by dsimp only; decide⟩
      · exact ⟨Th.lst (tr := []) nM1 s2 g2 fun t h => absurd h List.not_mem_nil, by dsimp only; decide, by dsimp only; decide, by dsimp only; decide⟩
      · exact ⟨Th.dct (tr := []) g3 fun t h => absurd h List.not_mem_nil, by dsimp only; decide, by dsimp only; decide, by dsimp only; decide⟩
      · exact ⟨Th.tup (tr := [(.int 3, .int 3)]) g4 fun t h => (by cases List.mem_singleton.mp h; exact .int _), by dsimp only; decide, by dsimp only; decide, by dsimp only; decide⟩
      · exact ⟨Th.lst (tr := [(.int 3, .int 3)]) nM2 s5 g5 fun t h => (by cases List.mem_singleton.mp h; exact .int _), by dsimp only; decide, by dsimp only; decide, by dsimp only; decide⟩
      · exact ⟨Th.dct (tr := [(3, .int 4, .int 4)]) g6 fun t h => (by cases List.mem_singleton.mp h; exact .int _), by dsimp only; decide, by dsimp only; decide, by dsimp only; decide⟩
      · exact ⟨.str _, by dsimp only; decide, by dsimp only; decide +kernel, by dsimp only; decide⟩
      · refine ⟨Th.tup (tr := [(.str "a", .str "a"), (.int 1, .int 1)]) g7 fun t h => ?_, by dsimp only; decide, by dsimp only; decide +kernel, by dsimp only; decide⟩
        simp only [List.mem_cons, List.not_mem_nil, or_false] at h
        rcases h with rfl | rfl
        · exact .str _
        · exact .int _
      · exact ⟨.dn g8, by dsimp only; decide, by dsimp only; decide, by dsimp only; decide⟩
      · exact ⟨.str _, by dsimp only; decide, by dsimp only; decide +kernel, by dsimp only; decide⟩
    have oLc' : H12 Lc = some (.lst (tr0.map fun t => t.1)) := oLc
    have lt0 : (tr0.map fun t => t.1).length = 16 := rfl
    have nLc : Lc ≠ p := pot_ne (hp.same (SH1.trans (SH2.trans (SH3.trans (SH4.trans (SH5.trans (S57.trans (SH8.trans (SH9.trans (S10.trans SH11)))))))))) hLc
    clear oLc
    clear_value tr0
    try walk_at "go"
    intro e0 H13 e1 e2 b13 p13
    rw [lt0] at e2
    obtain ⟨e, rfl⟩ : ∃ e : Nat, e0 = (e : Int) := ⟨e0.toNat, by omega⟩
    have el : e < tr0.length := by rw [List.length_map] at lt0; omega
    have ixe : atI (tr0.map fun t => t.1) (e : Int) = some tr0[e].1 := atI_nat (by rw [List.getElem?_map, List.getElem?_eq_getElem el] <;> rfl)
    obtain ⟨th, wg⟩ := all0 _ (List.getElem_mem el)
    have oLc13 := b13 _ _ nLc oLc'
    try walk_at "go"
    exact q _ _ H13 ((same_but S012).trans b13) p13 (th.but b13 p12.choose_spec.choose_spec.1) wg
/-! SPLIT -/
omit B in
theorem cut_toU {xs : List V} (n : Nat) : cutV xs none (some (n : Int)) = xs.take n := by
  unfold cutV
  rw [HT.sIx_nat, HT.sIx_none, List.drop_zero, Nat.sub_zero]
  by_cases c : n ≤ xs.length
  · rw [Nat.min_eq_left c]
  · rw [Nat.min_eq_right (by omega), List.take_length, List.take_of_length_le (by omega)]
omit B in
theorem cut_fromU {xs : List V} (n : Nat) : cutV xs (some (n : Int)) none = xs.drop n := by
  unfold cutV
  rw [HT.sIx_nat, HT.sIx_none]
  by_cases h : n ≤ xs.length
  · rw [Nat.min_eq_left h, List.take_of_length_le (by rw [List.length_drop] <;> exact Nat.le_refl _)]
  · rw [Nat.min_eq_right (by omega), Nat.sub_self, List.take_zero, List.drop_of_length_le (by omega)]
/-- an end, as data -/
def oD : Option Int → PyData
  | none => .none
  | some i => .int i
omit B in
theorem end_of {K : PySem.W.Frag} {p : Addr} {H : Hp} {v : V} {d : PyData} (h : Th K p H v d) (e : isEnd d = true) : ∃ o, v = oV o ∧ d = oD o := by
  cases h with
  | non => exact ⟨none, rfl, rfl⟩
  | int j => exact ⟨some j, rfl, rfl⟩
  | _ => cases e
omit B in
theorem oV_th {K : PySem.W.Frag} {p : Addr} {H : Hp} (o : Option Int) : Th K p H (oV o) (oD o) := by
  cases o with
  | none => exact .non
  | some i => exact .int i
omit B in
theorem deed_of {K : PySem.W.Frag} {p : Addr} {H : Hp} {v : V} {d : PyData} (h : Th K p H v d) (e : isDd d = true) : ∃ (T : Addr) (a : Int) (l u : Option Int), v = .ref T ∧ H T = some (.tup [.int a, oV l, oV u]) ∧ d = .tuple [.int a, oD l, oD u] := by
  cases ed : isTu d with
  | false => exact absurd e (by rw [isDd_no (isN_no ed)]; decide)
  | true =>
    obtain ⟨ds, rfl⟩ := isTu_inv ed
    obtain ⟨a, tr, rfl, rfl, ha, htr⟩ := h.tup_inv
    match tr, ha, htr, e with
    | [], _, _, e => cases e
    | [_], _, _, e => cases e
    | [_, _], _, _, e => cases e
    | _ :: _ :: _ :: _ :: _, _, _, e => cases e
    | [(xv, xd), (yv, yd), (zv, zd)], ha, htr, e =>
      have hx : Th K p H xv xd := htr _ List.mem_cons_self
      have hy : Th K p H yv yd := htr _ (List.mem_cons_of_mem _ List.mem_cons_self)
      have hz : Th K p H zv zd := htr _ (List.mem_cons_of_mem _ (List.mem_cons_of_mem _ List.mem_cons_self))
      have e : (isWh xd && (isEnd yd && (isEnd zd && okE xd yd zd))) = true := e
      rw [Bool.and_eq_true, Bool.and_eq_true, Bool.and_eq_true] at e
      obtain ⟨f1, f2, f3, _⟩ := e
      obtain ⟨i, rfl⟩ := isWh_inv f1
      cases hx.int_inv
      obtain ⟨l, rfl, rfl⟩ := end_of hy f2
      obtain ⟨u, rfl, rfl⟩ := end_of hz f3
      exact ⟨a, i, l, u, rfl, ha, rfl⟩
omit B in
theorem wgs_of {b : Nat} : ∀ {tr : List (V × PyData)}, (∀ t ∈ tr, Wg t.2 2 30000 b) → Wgs (tr.map fun t => t.2) 2 (tr.length * 30004) b
  | [], _ => Wgs.nil
  | t :: r, h => by
    have h2 := wgs_of (tr := r) fun x hx => h x (List.mem_cons_of_mem _ hx)
    have := Wgs.cons (h t List.mem_cons_self) h2
    exact this.mono (Nat.le_refl _) (by rw [List.length_cons]; omega) (Nat.le_refl _)
omit B in
theorem wgs_z {b : Nat} : ∀ {tr : List (V × PyData)}, (∀ t ∈ tr, Wg t.2 0 2000 b) → Wgs (tr.map fun t => t.2) 0 (tr.length * 2004) b
  | [], _ => Wgs.nil
  | t :: r, h => by
    have h2 := wgs_z (tr := r) fun x hx => h x (List.mem_cons_of_mem _ hx)
    have := Wgs.cons (h t List.mem_cons_self) h2
    exact this.mono (Nat.le_refl _) (by rw [List.length_cons]; omega) (Nat.le_refl _)
omit B in
theorem wg_int {i : Int} {b : Nat} (h : i.natAbs ≤ b) : Wg (.int i) 2 30000 b := ⟨Nat.zero_le _, by show 1921 ≤ 30000; decide, h⟩
def oB (o : Option Int) (b : Nat) : Prop := ∀ i, o = some i → i.natAbs ≤ b
omit B in
theorem wg_o {o : Option Int} {b : Nat} (h : oB o b) : Wg (oD o) 2 30000 b := by
  cases o with
  | none => exact ⟨Nat.zero_le _, by show 5 ≤ 30000; decide, Nat.zero_le _⟩
  | some i => exact wg_int (h i rfl)
def spSpN (K : PySem.W.Frag) : Sp := fun vs H Q _ => ∃ (p T : Addr) (a : Int) (l u : Option Int) (b : Nat), vs = [.ref p, .ref T] ∧ PotAt H p ∧ H T = some (.tup [.int a, oV l, oV u]) ∧ a.natAbs ≤ b ∧ oB l b ∧ oB u b ∧ 10 ^ 29 ≤ b ∧ b ≤ 10 ^ 80 ∧ ∀ v d H', But p H H' → PotAt H' p → Th K p H' v d → Wg d 3 300000 (b + 1) → Q v H'
theorem k__law_spoilt (D : Df K mg "_law_spoilt" s__law_spoilt ["_law_pot_here", "_law_deed_here"]) (D__law_take : Dn P w K mg base 1 "_law_take" ["_law_pot_here", "_law_many"] spTake) (D__law_odd : Dn P w K mg base 2 "_law_odd" ["_law_pot_here"] (spOddN K)) (D__law_number : Dn P w K mg base 2 "_law_number" ["_law_pot_here"] spNumber) : Dn P w K mg base 4 "_law_spoilt" ["_law_pot_here", "_law_deed_here"] (spSpN K) := by
  refine D.ok fun f fd F => okG0 F sc__law_spoilt (fun vs H Q E h => ?_) (fun cdv A outer s H vs Q E hr h => ⟨_, (pss_cons (ps_set (i := 2) sc__law_spoilt.nd rfl (Or.inl rfl) (pe_cD D__law_take (hr.less (by decide)) rfl (pa_cons (pv 0) (pa_cons pe_int pa_nil))))
    (pss_cons (ps_set (i := 3) sc__law_spoilt.nd rfl (Or.inl rfl) (pe_cD D__law_odd (hr.less (by decide)) rfl (pa_cons (pv 0) pa_nil)))
    (pss_cons (ps_set (i := 4) sc__law_spoilt.nd rfl (Or.inl rfl) (pe_cD D__law_take (hr.less (by decide)) rfl (pa_cons (pv 0) (pa_cons pe_int pa_nil))))
    (pss_cons (ps_if (pt_cmpR op_lt (pv 2) pe_int (nomark _))
      (pss_one (ps_ret (pe_op op_catU (pe_op op_catU (pe_slice sl_tupU (pv 1) po_none (po_some (pv 4))) (pe_tup (pa_cons (pv 3) pa_nil))) (pe_slice sl_tupU (pv 1) (po_some (pe_op op_add (pv 4) pe_int)) po_none))))
      pss_nil)
    (pss_cons (ps_if (pt_cmpR op_eq (pv 2) pe_int (nomark _))
      (pss_one (ps_ret (pe_op op_catU (pe_op op_catU (pe_slice sl_tupU (pv 1) po_none (po_some (pv 4))) (pe_tup (pa_cons (pe_cD D__law_number (hr.less (by decide)) rfl (pa_cons (pv 0) pa_nil)) pa_nil))) (pe_slice sl_tupU (pv 1) (po_some (pe_op op_add (pv 4) pe_int)) po_none))))
      pss_nil)
    (pss_cons (ps_if (pt_cmpR op_eq (pv 2) pe_int (nomark _))
      (pss_one (ps_ret (pe_tup (pa_cons (pe_ix (kk (K := K) (F := rIxT) (P := IxR _) ix_tup) (pv 1) pe_int (fun _ _ => rfl)) (pa_cons (pe_ix (kk (K := K) (F := rIxT) (P := IxR _) ix_tup) (pv 1) pe_int (fun _ _ => rfl)) (pa_cons (pe_ix (kk (K := K) (F := rIxT) (P := IxR _) ix_tup) (pv 1) pe_int (fun _ _ => rfl)) pa_nil))))))
      pss_nil)
    (pss_cons (ps_if (pt_cmpR op_eq (pv 2) pe_int (nomark _))
      (pss_cons (ps_set (i := 5) sc__law_spoilt.nd rfl (Or.inl rfl) (pe_cD D__law_number (hr.less (by decide)) rfl (pa_cons (pv 0) pa_nil)))
      (pss_one (ps_ret (pe_tup (pa_cons (pe_op op_mulX (pe_cD D__law_take (hr.less (by decide)) rfl (pa_cons (pv 0) (pa_cons pe_int pa_nil))) (pe_op op_add pe_int (pe_callB call_abs (by rfl) B.abs_ (by decide +kernel) (pa_cons (pe_ix (kk (K := K) (F := rIxT) (P := IxR _) ix_tup) (pv 1) pe_int (fun _ _ => rfl)) pa_nil)))) (pa_cons (pv 5) (pa_cons (pv 5) pa_nil)))))))
      pss_nil)
    (pss_cons (ps_if (pt_cmpR op_eq (pv 2) pe_int (nomark _))
      (pss_one (ps_ret (pe_op op_catU (pe_slice sl_tupU (pv 1) po_none (po_some (pv 4))) (pe_slice sl_tupU (pv 1) (po_some (pe_op op_add (pv 4) pe_int)) po_none))))
      pss_nil)
    (pss_cons (ps_if (pt_cmpR op_eq (pv 2) pe_int (nomark _))
      (pss_one (ps_ret (pe_ix (kk (K := K) (F := rIxL) (P := IxR _) ix_list) (pe_lstS (pa_cons (pe_callTy (lstOfS (K := K)) (by rfl) B.list_ (by decide +kernel) (pa_cons (pv 1) pa_nil)) (pa_cons (pe_tup (pa_cons (pv 1) pa_nil)) (pa_cons (pe_lstS (pa_cons (pv 1) pa_nil)) (pa_cons (pe_op op_catU (pv 1) (pe_tup (pa_cons pe_non pa_nil))) (pa_cons (pe_op op_catU (pv 1) (pv 1)) pa_nil)))))) (pe_cD D__law_take (hr.less (by decide)) rfl (pa_cons (pv 0) (pa_cons pe_int pa_nil))) (fun _ _ => rfl))))
      pss_nil)
    (pss_one (ps_ret (pe_ifExp (pt_cmpR op_eq (pv 2) pe_int (nomark _)) (pv 3) (pe_tup (pa_cons (pe_ix (kk (K := K) (F := rIxT) (P := IxR _) ix_tup) (pv 1) pe_int (fun _ _ => rfl)) (pa_cons (pe_cD D__law_number (hr.less (by decide)) rfl (pa_cons (pv 0) pa_nil)) (pa_cons (pe_cD D__law_number (hr.less (by decide)) rfl (pa_cons (pv 0) pa_nil)) pa_nil)))))))))))))))), ?_⟩)
  · obtain ⟨p, T, a, l, u, b, rfl, _⟩ := h; rfl
  · obtain ⟨p, T, a, l, u, b, rfl, hp, hT, ha, hl, hu, b29, b80, q⟩ := h
    try walk_at "go"
    intro r H1 r0 r1 b1 p1
    try walk_at "go"
    intro ov od H2 b2 p2 t2 w2
    try walk_at "go"
    intro a0 H3 a1 a2 b3 p3
    obtain ⟨m, rfl⟩ : ∃ m : Nat, a0 = (m : Int) := ⟨a0.toNat, by omega⟩
    have m4 : m < 4 := by omega
    let tr : List (V × PyData) := [(.int a, .int a), (oV l, oD l), (oV u, oD u)]
    have hT' : H T = some (.tup (tr.map fun t => t.1)) := hT
    have lt3 : tr.length = 3 := rfl
    have lm3 : (tr.map fun t => t.1).length = 3 := rfl
    have all0 : ∀ t ∈ tr, ∀ H', Th K p H' t.1 t.2 ∧ Wg t.2 2 30000 (b + 1) := fun t ht H' => by
      simp only [tr, List.mem_cons, List.not_mem_nil, or_false] at ht
      rcases ht with rfl | rfl | rfl
      · exact ⟨.int _, wg_int (by omega)⟩
      · exact ⟨oV_th l, wg_o fun i e => Nat.le_succ_of_le (hl i e)⟩
      · exact ⟨oV_th u, wg_o fun i e => Nat.le_succ_of_le (hu i e)⟩
    have ze0 : ∀ t ∈ tr, Wg t.2 0 2000 (b + 1) := fun t ht => by
      simp only [tr, List.mem_cons, List.not_mem_nil, or_false] at ht
      have zo : ∀ {o}, oB o b → Wg (oD o) 0 2000 (b + 1) := fun {o} h => by
        cases o with
        | none => exact ⟨Nat.le_refl _, by show 5 ≤ 2000; decide, Nat.zero_le _⟩
        | some i => exact ⟨Nat.le_refl _, by show 1921 ≤ 2000; decide, Nat.le_succ_of_le (h i rfl)⟩
      rcases ht with rfl | rfl | rfl
      · exact ⟨Nat.le_refl _, by show 1921 ≤ 2000; decide, by show a.natAbs ≤ _; omega⟩
      · exact zo hl
      · exact zo hu
    have kp := hp.choose_spec.choose_spec.1
    have keepT : ∀ {H'}, But p H H' → ∀ x xs, H x = some (.tup xs) → H' x = some (.tup xs) := fun b x xs h => b _ _ (ne_of h kp (by intro z; cases z)) h
    have B3 := b1.trans (b2.trans b3)
    have hT3 := keepT B3 _ _ hT'
    have t3 := t2.but b3 p2.choose_spec.choose_spec.1
    have w3 : Wg od 2 30000 (b + 1) := w2.mono (Nat.le_refl _) (Nat.le_refl _) (by omega)
    have tupE : ∀ (T' : Addr) (tr' : List (V × PyData)) (H' : Hp), But p H H' → PotAt H' p → H' T' = some (.tup (tr'.map fun t => t.1)) → (∀ t ∈ tr', Th K p H' t.1 t.2 ∧ Wg t.2 2 30000 (b + 1)) → tr'.length ≤ 8 → Q (.ref T') H' := fun T' tr' H' be pe h g ln =>
      q _ _ H' be pe (.tup h fun t ht => (g t ht).1) ((Wg.tup (wgs_of fun t ht => (g t ht).2)).mono (Nat.le_refl _) (by omega) (Nat.le_refl _))
    have lt1 : ((tr.map fun t => t.1).take m).length ≤ 3 := by rw [List.length_take, lm3]; omega
    have lt2 : ∀ n, ((tr.map fun t => t.1).drop n).length ≤ 3 := fun n => by rw [List.length_drop, lm3]; omega
    have ea : (m : Int) + 1 = ((m + 1 : Nat) : Int) := by omega
    have putE : ∀ (T' : Addr) (v : V) (d : PyData) (H' : Hp), But p H H' → PotAt H' p → Th K p H' v d → Wg d 2 30000 (b + 1) → H' T' = some (.tup ((tr.map fun t => t.1).take m ++ [v] ++ (tr.map fun t => t.1).drop (m + 1))) → Q (.ref T') H' := fun T' v d H' be pe th wg h => by
      refine tupE T' (tr.take m ++ [(v, d)] ++ tr.drop (m + 1)) H' be pe (by rw [h, List.map_append, List.map_append, List.map_take, List.map_drop] <;> rfl) (fun t ht => ?_) (by rw [List.length_append, List.length_append, List.length_take, List.length_drop, lt3]; show min m 3 + 1 + (3 - (m + 1)) ≤ 8; omega)
      rcases List.mem_append.mp ht with ht | ht
      · rcases List.mem_append.mp ht with ht | ht
        · exact all0 t (List.mem_of_mem_take ht) _
        · cases List.mem_singleton.mp ht
          exact ⟨th, wg⟩
      · exact all0 t (List.mem_of_mem_drop ht) _
    have i0 : atI (tr.map fun t => t.1) 0 = some (.int a) := rfl
    have i1 : atI (tr.map fun t => t.1) 1 = some (oV l) := rfl
    have i2 : atI (tr.map fun t => t.1) 2 = some (oV u) := rfl
    clear_value tr
    have lz1 : ∀ v : V, ((tr.map fun t => t.1).take m).length + [v].length ≤ sizeLine := fun v => small (by show _ + 1 ≤ 1000; omega)
    have lz2 : ∀ v : V, ((tr.map fun t => t.1).take m ++ [v]).length + ((tr.map fun t => t.1).drop (m + 1)).length ≤ sizeLine := fun v => by
      have := lt2 (m + 1)
      rw [List.length_append]
      exact small (by show _ + 1 + _ ≤ 1000; omega)
    try walk_at "go"
    refine ite2 (fun c1 => ?_) (fun c1 => ?_)
    · try walk_at "go"
      intro A H4 S4 oA
      rw [cut_toU] at oA
      have hT4 := S4 _ _ hT3
      try walk_at "go"
      intro C hC
      generalize eH5 : upd _ C _ = H5
      have SH5 := newS eH5 hC
      have oC := newO eH5
      have oA5 := SH5 _ _ oA
      have l1 := lz1 ov
      try walk_at "go"
      intro D H6 S6 oD
      have hT6 := S6 _ _ (SH5 _ _ hT4)
      try walk_at "go"
      intro E H7 S7 oE
      rw [ea, cut_fromU] at oE
      have oD7 := S7 _ _ oD
      have l2 := lz2 ov
      try walk_at "go"
      intro F H8 S8 oF
      have S38 := S4.trans (SH5.trans (S6.trans (S7.trans S8)))
      exact putE F ov od H8 (B3.trans (same_but S38)) (p3.same S38) (t3.same S38) w3 oF
    try walk_at "go"
    refine ite2 (fun c2 => ?_) (fun c2 => ?_)
    · try walk_at "go"
      intro A H4 S4 oA
      rw [cut_toU] at oA
      have hT4 := S4 _ _ hT3
      have p4 := p3.same S4
      try walk_at "go"
      intro n Hn n1 n2 bn pn
      have kn : ∀ x xs, H4 x = some (.tup xs) → Hn x = some (.tup xs) := fun x xs h => bn _ _ (ne_of h p4.choose_spec.choose_spec.1 (by intro z; cases z)) h
      have hTn := kn _ _ hT4
      have oAn := kn _ _ oA
      try walk_at "go"
      intro C hC
      generalize eH5 : upd _ C _ = H5
      have SH5 := newS eH5 hC
      have oC := newO eH5
      have oA5 := SH5 _ _ oAn
      have l1 := lz1 (.int n)
      try walk_at "go"
      intro D H6 S6 oD
      have hT6 := S6 _ _ (SH5 _ _ hTn)
      try walk_at "go"
      intro E H7 S7 oE
      rw [ea, cut_fromU] at oE
      have oD7 := S7 _ _ oD
      have l2 := lz2 (.int n)
      try walk_at "go"
      intro F H8 S8 oF
      have Sn8 := SH5.trans (S6.trans (S7.trans S8))
      exact putE F (.int n) (.int n) H8 (B3.trans ((same_but S4).trans (bn.trans (same_but Sn8)))) (pn.same Sn8) (.int n) (wg_int (by omega)) oF
    have ia : ∀ x : Int, x.natAbs ≤ b + 1 → ∀ H', Th K p H' (.int x) (.int x) ∧ Wg (.int x) 2 30000 (b + 1) := fun x h H' => ⟨.int x, wg_int h⟩
    have iL : ∀ H', Th K p H' (oV l) (oD l) ∧ Wg (oD l) 2 30000 (b + 1) := fun H' => ⟨oV_th l, wg_o fun i e => Nat.le_succ_of_le (hl i e)⟩
    have iU : ∀ H', Th K p H' (oV u) (oD u) ∧ Wg (oD u) 2 30000 (b + 1) := fun H' => ⟨oV_th u, wg_o fun i e => Nat.le_succ_of_le (hu i e)⟩
    try walk_at "go"
    refine ite2 (fun c3 => ?_) (fun c3 => ?_)
    · try walk_at "go"
      intro F hF
      generalize eH4 : upd _ F _ = H4
      have SH4 := newS eH4 hF
      have oF := newO eH4
      refine tupE F [(.int a, .int a), (oV u, oD u), (oV l, oD l)] H4 (B3.trans (same_but SH4)) (p3.same SH4) oF (fun t ht => ?_) (by show 3 ≤ 8; decide)
      simp only [List.mem_cons, List.not_mem_nil, or_false] at ht
      rcases ht with rfl | rfl | rfl
      · exact ia a (by omega) _
      · exact iU _
      · exact iL _
    try walk_at "go"
    refine ite2 (fun c4 => ?_) (fun c4 => ?_)
    · try walk_at "go"
      intro n H4 n1 n2 b4 p4
      have kn : ∀ x xs, H3 x = some (.tup xs) → H4 x = some (.tup xs) := fun x xs h => b4 _ _ (ne_of h p3.choose_spec.choose_spec.1 (by intro z; cases z)) h
      have hT4 := kn _ _ hT3
      try walk_at "go"
      intro w H5 w0 w2' b5 p5
      have hT5 : H5 T = some (.tup (tr.map fun t => t.1)) := b5 _ _ (ne_of hT4 p4.choose_spec.choose_spec.1 (by intro z; cases z)) hT4
      have ab : (if a < 0 then -a else a).natAbs = a.natAbs := by split <;> omega
      have a0 : 0 ≤ (if a < 0 then -a else a) := by split <;> omega
      have cm : CMulX w (1 + if a < 0 then -a else a) := mulx 2 270 (by omega) (by omega)
      have wb : (w * (1 + if a < 0 then -a else a)).natAbs ≤ b + 1 := by
        rcases (show w = 0 ∨ w = 1 by omega) with rfl | rfl
        · rw [Int.zero_mul]; omega
        · rw [Int.one_mul]; omega
      try walk_at "go"
      intro F hF
      generalize eH6 : upd _ F _ = H6
      have SH6 := newS eH6 hF
      have oF := newO eH6
      refine tupE F [(.int (w * (1 + if a < 0 then -a else a)), .int (w * (1 + if a < 0 then -a else a))), (.int n, .int n), (.int n, .int n)] H6 (B3.trans (b4.trans (b5.trans (same_but SH6)))) (p5.same SH6) oF (fun t ht => ?_) (by show 3 ≤ 8; decide)
      simp only [List.mem_cons, List.not_mem_nil, or_false] at ht
      rcases ht with rfl | rfl | rfl
      · exact ia _ wb _
      · exact ia n (by omega) _
      · exact ia n (by omega) _
    try walk_at "go"
    refine ite2 (fun c5 => ?_) (fun c5 => ?_)
    · try walk_at "go"
      intro A H4 S4 oA
      rw [cut_toU] at oA
      have hT4 := S4 _ _ hT3
      try walk_at "go"
      intro E H5 S5 oE
      rw [ea, cut_fromU] at oE
      have oA5 := S5 _ _ oA
      have lq : ((tr.map fun t => t.1).take m).length + ((tr.map fun t => t.1).drop (m + 1)).length ≤ sizeLine := small (by have := lt2 (m + 1); omega)
      try walk_at "go"
      intro F H6 S6 oF
      have S36 := S4.trans (S5.trans S6)
      refine tupE F (tr.take m ++ tr.drop (m + 1)) H6 (B3.trans (same_but S36)) (p3.same S36) (by rw [oF, List.map_append, List.map_take, List.map_drop]) (fun t ht => ?_) (by rw [List.length_append, List.length_take, List.length_drop, lt3]; omega)
      rcases List.mem_append.mp ht with ht | ht
      · exact all0 t (List.mem_of_mem_take ht) _
      · exact all0 t (List.mem_of_mem_drop ht) _
    try walk_at "go"
    refine ite2 (fun c6 => ?_) (fun c6 => ?_)
    · try walk_at "go"
      intro M1 hM1 sM1
      generalize eH4 : upd H3 M1 _ = H4
      have SH4 : Same H3 H4 := eH4 ▸ same_new hM1 _
      have oM1 : H4 M1 = some (.lst (tr.map fun t => t.1)) := by rw [← eH4]; exact upd_same
      have hT4 := SH4 _ _ hT3
      try walk_at "go"
      intro U1 hU1
      generalize eH5 : upd _ U1 _ = H5
      have SH5 := newS eH5 hU1
      have oU1 := newO eH5
      try walk_at "go"
      intro M2 hM2
      generalize eH6 : upd _ M2 _ = H6
      have SH6 := newS eH6 hM2
      have oM2 := newO eH6
      intro sM2
      have hT6 := SH6 _ _ (SH5 _ _ hT4)
      try walk_at "go"
      intro U2 hU2
      generalize eH7 : upd _ U2 _ = H7
      have SH7 := newS eH7 hU2
      have oU2 := newO eH7
      have hT7 := SH7 _ _ hT6
      have lq1 : (tr.map fun t => t.1).length + [V.non].length ≤ sizeLine := by rw [lm3]; exact small (by decide)
      try walk_at "go"
      intro U3 H8 S8 oU3
      have hT8 := S8 _ _ hT7
      have lq2 : (tr.map fun t => t.1).length + (tr.map fun t => t.1).length ≤ sizeLine := by rw [lm3]; exact small (by decide)
      try walk_at "go"
      intro U4 H9 S9 oU4
      have hT9 := S9 _ _ hT8
      try walk_at "go"
      intro L1 hL1
      generalize eH10 : upd _ L1 _ = H10
      have SH10 := newS eH10 hL1
      have oL1 := newO eH10
      intro sL1
      have p9 := p3.same (SH4.trans (SH5.trans (SH6.trans (SH7.trans (S8.trans S9)))))
      have p10 := p9.same SH10
      have nL1 : L1 ≠ p := pot_ne p9 hL1
      try walk_at "go"
      intro e0 H11 e1 e2 b11 p11
      have k10 : ∀ x o, H10 x = some o → (∀ ys, o ≠ .lst ys) ∨ x ≠ p → H11 x = some o := fun x o h c => by
        refine b11 _ _ (fun z => ?_) h
        rcases c with c | c
        · rw [z, p10.choose_spec.choose_spec.1] at h
          exact c _ (Option.some.inj h).symm
        · exact c z
      have nM1 : M1 ≠ p := pot_ne p3 hM1
      have nM2 : M2 ≠ p := pot_ne (p3.same (SH4.trans SH5)) hM2
      have S510 := SH6.trans (SH7.trans (S8.trans (S9.trans SH10)))
      have g1 : H11 M1 = some (.lst (tr.map fun t => t.1)) := k10 _ _ ((SH5.trans S510) _ _ oM1) (.inr nM1)
      have g2 : H11 U1 = some (.tup [.ref T]) := k10 _ _ (S510 _ _ oU1) (.inl fun _ z => nomatch z)
      have g3 : H11 M2 = some (.lst [.ref T]) := k10 _ _ ((SH7.trans (S8.trans (S9.trans SH10))) _ _ oM2) (.inr nM2)
      have g4 : H11 U3 = some (.tup ((tr.map fun t => t.1) ++ [.non])) := k10 _ _ ((S9.trans SH10) _ _ oU3) (.inl fun _ z => nomatch z)
      have g5 : H11 U4 = some (.tup ((tr.map fun t => t.1) ++ (tr.map fun t => t.1))) := k10 _ _ (SH10 _ _ oU4) (.inl fun _ z => nomatch z)
      have gL : H11 L1 = some (.lst [.ref M1, .ref U1, .ref M2, .ref U3, .ref U4]) := k10 _ _ oL1 (.inr nL1)
      have gT : H11 T = some (.tup (tr.map fun t => t.1)) := k10 _ _ (SH10 _ _ hT9) (.inl fun _ z => nomatch z)
      have B11 : But p H H11 := B3.trans ((same_but (SH4.trans (SH5.trans S510))).trans b11)
      have dT : Th K p H11 (.ref T) (.tuple (tr.map fun t => t.2)) := .tup gT fun t ht => (all0 t ht H11).1
      have wz : ∀ t ∈ tr, Wg t.2 2 30000 (b + 1) := fun t ht => (all0 t ht H11).2
      have all00 : ∀ t ∈ tr, Wg t.2 0 2000 (b + 1) := ze0
      have dW : Wg (.tuple (tr.map fun t => t.2)) 2 30000 (b + 1) := (Wg.tup (wgs_z all00)).mono (by decide) (by rw [lt3]; decide) (Nat.le_refl _)
      rcases (show e0 = 0 ∨ e0 = 1 ∨ e0 = 2 ∨ e0 = 3 ∨ e0 = 4 by omega) with rfl | rfl | rfl | rfl | rfl
      · have ix : atI [V.ref M1, V.ref U1, V.ref M2, V.ref U3, V.ref U4] 0 = some (.ref M1) := rfl
        try walk_at "go"
        exact q _ _ H11 B11 p11 (.lst nM1 sM1 g1 fun t ht => (all0 t ht H11).1) ((Wg.lst (wgs_z all00)).mono (by decide) (by rw [lt3]; decide) (Nat.le_refl _))
      · have ix : atI [V.ref M1, V.ref U1, V.ref M2, V.ref U3, V.ref U4] 1 = some (.ref U1) := rfl
        try walk_at "go"
        refine tupE U1 [(.ref T, .tuple (tr.map fun t => t.2))] H11 B11 p11 g2 (fun t ht => ?_) (by show 1 ≤ 8; decide)
        cases List.mem_singleton.mp ht
        exact ⟨dT, dW⟩
      · have ix : atI [V.ref M1, V.ref U1, V.ref M2, V.ref U3, V.ref U4] 2 = some (.ref M2) := rfl
        try walk_at "go"
        refine q _ _ H11 B11 p11 (.lst (tr := [(.ref T, .tuple (tr.map fun t => t.2))]) nM2 sM2 g3 fun t ht => ?_) ?_
        · cases List.mem_singleton.mp ht
          exact dT
        · exact (Wg.lst (Wgs.cons dW (Wgs.nil (c := 0)))).mono (by decide) (by decide) (Nat.le_refl _)
      · have ix : atI [V.ref M1, V.ref U1, V.ref M2, V.ref U3, V.ref U4] 3 = some (.ref U3) := rfl
        try walk_at "go"
        refine tupE U3 (tr ++ [(.non, .none)]) H11 B11 p11 (by rw [g4, List.map_append] <;> rfl) (fun t ht => ?_) (by rw [List.length_append, lt3]; show 3 + 1 ≤ 8; decide)
        rcases List.mem_append.mp ht with ht | ht
        · exact all0 t ht H11
        · cases List.mem_singleton.mp ht
          exact ⟨.non, by show 0 ≤ 2; decide, by show 5 ≤ 30000; decide, Nat.zero_le _⟩
      · have ix : atI [V.ref M1, V.ref U1, V.ref M2, V.ref U3, V.ref U4] 4 = some (.ref U4) := rfl
        try walk_at "go"
        refine tupE U4 (tr ++ tr) H11 B11 p11 (by rw [g5, List.map_append]) (fun t ht => ?_) (by rw [List.length_append, lt3]; decide)
        rcases List.mem_append.mp ht with ht | ht
        · exact all0 t ht H11
        · exact all0 t ht H11
    try walk_at "go"
    refine ite2 (fun c7 => ?_) (fun c7 => ?_)
    · try walk_at "go"
      exact q _ _ H3 B3 p3 t3 (w3.mono (by decide) (by decide) (Nat.le_refl _))
    try walk_at "go"
    intro n H4 n1 n2 b4 p4
    try walk_at "go"
    intro n' H5 n1' n2' b5 p5
    try walk_at "go"
    intro F hF
    generalize eH6 : upd _ F _ = H6
    have SH6 := newS eH6 hF
    have oF := newO eH6
    refine tupE F [(.int a, .int a), (.int n, .int n), (.int n', .int n')] H6 (B3.trans (b4.trans (b5.trans (same_but SH6)))) (p5.same SH6) oF (fun t ht => ?_) (by show 3 ≤ 8; decide)
    simp only [List.mem_cons, List.not_mem_nil, or_false] at ht
    rcases ht with rfl | rfl | rfl
    · exact ia _ (by omega) _
    · exact ia n (by omega) _
    · exact ia n' (by omega) _
/-! SPLIT -/
omit B in
theorem twin_no {a : Int} {l u : Option Int} (m : Nat) (hm : m < 3) (x : Bool) : isDd (.tuple (([PyData.int a, oD l, oD u]).take m ++ [.bool x] ++ ([PyData.int a, oD l, oD u]).drop (m + 1))) = false := by
  rcases (show m = 0 ∨ m = 1 ∨ m = 2 by omega) with rfl | rfl | rfl
  · rfl
  · rfl
  · show (true && (isEnd (oD l) && (isEnd (.bool x) && _))) = false
    cases l <;> rfl
def spTrN (K : PySem.W.Frag) : Sp := fun vs H Q _ => ∃ (p : Addr), vs = [.ref p] ∧ PotAt H p ∧ ∀ H', But p H H' → PotAt H' p → Q (.bl true) H'
theorem k__law_truths_right (D : Df K mg "_law_truths_right" s__law_truths_right ["_law_pot_here"]) (D__law_take : Dn P w K mg base 1 "_law_take" ["_law_pot_here", "_law_many"] spTake) (D_is_deed : Dn P w K mg base 3 "is_deed" ["thing"] (spDeedT K)) : Dn P w K mg base 5 "_law_truths_right" ["_law_pot_here"] (spTrN K) := by
  refine D.ok fun f fd F => okG0 F sc__law_truths_right (fun vs H Q E h => ?_) (fun cdv A outer s H vs Q E hr h => ⟨_, (pss_cons (ps_set (i := 1) sc__law_truths_right.nd rfl (Or.inl rfl) (pe_lst (pa_cons (pe_tup (pa_cons pe_int (pa_cons pe_non (pa_cons pe_non pa_nil)))) (pa_cons (pe_tup (pa_cons pe_int (pa_cons pe_non (pa_cons pe_non pa_nil)))) (pa_cons (pe_tup (pa_cons pe_int (pa_cons pe_int (pa_cons pe_non pa_nil)))) (pa_cons (pe_tup (pa_cons pe_int (pa_cons pe_non (pa_cons pe_int pa_nil)))) (pa_cons (pe_tup (pa_cons pe_int (pa_cons pe_int (pa_cons pe_int pa_nil)))) (pa_cons (pe_tup (pa_cons pe_int (pa_cons pe_int (pa_cons pe_int pa_nil)))) (pa_cons (pe_tup (pa_cons pe_int (pa_cons pe_int (pa_cons pe_int pa_nil)))) (pa_cons (pe_tup (pa_cons pe_int (pa_cons pe_int (pa_cons pe_int pa_nil)))) pa_nil))))))))))
    (pss_cons (ps_set (i := 2) sc__law_truths_right.nd rfl (Or.inl rfl) (pe_ix (kk (K := K) (F := rIxL) (P := IxR _) ix_list) (pv 1) (pe_cD D__law_take (hr.less (by decide)) rfl (pa_cons (pv 0) (pa_cons pe_int pa_nil))) (fun _ _ => rfl)))
    (pss_cons (ps_set (i := 3) sc__law_truths_right.nd rfl (Or.inl rfl) (pe_cD D__law_take (hr.less (by decide)) rfl (pa_cons (pv 0) (pa_cons pe_int pa_nil))))
    (C8.pss_cut (ps_if (pt_cmpR op_isN (pe_ix (kk (K := K) (F := rIxT) (P := IxR _) ix_tup) (pv 2) (pv 3) (fun _ _ => rfl)) pe_non (nomark _))
      (pss_one (ps_set (i := 3) sc__law_truths_right.nd rfl (Or.inl rfl) pe_int))
      pss_nil)
    (pss_cons (ps_set (i := 4) sc__law_truths_right.nd rfl (Or.inl rfl) (pe_op op_catU (pe_op op_catU (pe_slice sl_tupU (pv 2) po_none (po_some (pv 3))) (pe_tup (pa_cons (pe_cmpR op_eq (pe_ix (kk (K := K) (F := rIxT) (P := IxR _) ix_tup) (pv 2) (pv 3) (fun _ _ => rfl)) pe_int (nomark _)) pa_nil))) (pe_slice sl_tupU (pv 2) (po_some (pe_op op_add (pv 3) pe_int)) po_none)))
    (pss_cons (ps_for PassesOwn.never rfl (pi_range1 (by rfl) B.range_ (pa_cons pe_int pa_nil)) (pg_name (i := 5) sc__law_truths_right.nd rfl (Or.inl rfl))
      (pss_one (ps_if (PW.pt (pw_or (pt_cmpR op_notBl (pe_cD D_is_deed (hr.less (by decide)) rfl (pa_cons (pv 2) pa_nil)) pe_bl (nomark _)) (pw_or1 (pt_cmpR op_notBl (pe_cD D_is_deed (hr.less (by decide)) rfl (pa_cons (pv 4) pa_nil)) pe_bl (nomark _)))))
       (pss_one (ps_ret pe_bl))
       pss_nil)))
    (pss_one (ps_ret pe_bl)))))))), ?_⟩)
  · obtain ⟨p, rfl, _⟩ := h; rfl
  · obtain ⟨p, rfl, hp, q⟩ := h
    try walk_at "go"
    intro t1 ht1
    generalize eH1 : upd _ t1 _ = H1
    have SH1 := newS eH1 ht1
    have ot1 := newO eH1
    try walk_at "go"
    intro t2 ht2
    generalize eH2 : upd _ t2 _ = H2
    have SH2 := newS eH2 ht2
    have ot2 := newO eH2
    try walk_at "go"
    intro t3 ht3
    generalize eH3 : upd _ t3 _ = H3
    have SH3 := newS eH3 ht3
    have ot3 := newO eH3
    try walk_at "go"
    intro t4 ht4
    generalize eH4 : upd _ t4 _ = H4
    have SH4 := newS eH4 ht4
    have ot4 := newO eH4
    try walk_at "go"
    intro t5 ht5
    generalize eH5 : upd _ t5 _ = H5
    have SH5 := newS eH5 ht5
    have ot5 := newO eH5
    try walk_at "go"
    intro t6 ht6
    generalize eH6 : upd _ t6 _ = H6
    have SH6 := newS eH6 ht6
    have ot6 := newO eH6
    try walk_at "go"
    intro t7 ht7
    generalize eH7 : upd _ t7 _ = H7
    have SH7 := newS eH7 ht7
    have ot7 := newO eH7
    try walk_at "go"
    intro t8 ht8
    generalize eH8 : upd _ t8 _ = H8
    have SH8 := newS eH8 ht8
    have ot8 := newO eH8
    try walk_at "go"
    intro Lq hLq
    generalize eH9 : upd _ Lq _ = H9
    have SH9 := newS eH9 hLq
    have oLq := newO eH9
    have g1 := (SH2.trans (SH3.trans (SH4.trans (SH5.trans (SH6.trans (SH7.trans (SH8.trans SH9))))))) _ _ ot1
    have g2 := (SH3.trans (SH4.trans (SH5.trans (SH6.trans (SH7.trans (SH8.trans SH9)))))) _ _ ot2
    have g3 := (SH4.trans (SH5.trans (SH6.trans (SH7.trans (SH8.trans SH9))))) _ _ ot3
    have g4 := (SH5.trans (SH6.trans (SH7.trans (SH8.trans SH9)))) _ _ ot4
    have g5 := (SH6.trans (SH7.trans (SH8.trans SH9))) _ _ ot5
    have g6 := (SH7.trans (SH8.trans SH9)) _ _ ot6
    have g7 := (SH8.trans SH9) _ _ ot7
    have g8 := SH9 _ _ ot8
    have S08 := SH1.trans (SH2.trans (SH3.trans (SH4.trans (SH5.trans (SH6.trans (SH7.trans SH8))))))
    have p8 := hp.same S08
    have p9 := p8.same SH9
    have nL : Lq ≠ p := pot_ne p8 hLq
    let tr0 : List (Addr × Int × Option Int × Option Int) := [(t1, 1, none, none), (t2, 0, none, none), (t3, 0, some 0, none), (t4, 1, none, some 1), (t5, 1, some 0, some 1), (t6, 0, some 0, some 1), (t7, 0, some 1, some 1), (t8, 0, some 0, some 0)]
    have all0 : ∀ t ∈ tr0, H9 t.1 = some (.tup [.int t.2.1, oV t.2.2.1, oV t.2.2.2]) ∧ isDd (.tuple [.int t.2.1, oD t.2.2.1, oD t.2.2.2]) = true := fun t ht => by
      simp only [tr0, List.mem_cons, List.not_mem_nil, or_false] at ht
      rcases ht with rfl | rfl | rfl | rfl | rfl | rfl | rfl | rfl
      · exact ⟨g1, rfl⟩
      · exact ⟨g2, rfl⟩
      · exact ⟨g3, rfl⟩
      · exact ⟨g4, rfl⟩
      · exact ⟨g5, rfl⟩
      · exact ⟨g6, rfl⟩
      · exact ⟨g7, rfl⟩
      · exact ⟨g8, rfl⟩
    have oL' : H9 Lq = some (.lst (tr0.map fun t => V.ref t.1)) := oLq
    have lt0 : tr0.length = 8 := rfl
    clear oLq
    clear_value tr0
    try walk_at "go"
    intro e0 H10 e1 e2 b10 p10
    obtain ⟨e, rfl⟩ : ∃ e : Nat, e0 = (e : Int) := ⟨e0.toNat, by omega⟩
    have el : e < tr0.length := by omega
    have ixe : atI (tr0.map fun t => V.ref t.1) (e : Int) = some (.ref tr0[e].1) := atI_nat (by rw [List.getElem?_map, List.getElem?_eq_getElem el] <;> rfl)
    obtain ⟨hT0, hDd⟩ := all0 _ (List.getElem_mem el)
    have oL10 := b10 _ _ nL oL'
    have B10 : But p H H10 := (same_but (S08.trans SH9)).trans b10
    generalize tr0[e] = ch at ixe hT0 hDd
    obtain ⟨T, a, l, u⟩ := ch
    have hT10 : H10 T = some (.tup [.int a, oV l, oV u]) := b10 _ _ (ne_of hT0 p9.choose_spec.choose_spec.1 (by intro z; cases z)) hT0
    have hDd : isDd (.tuple [.int a, oD l, oD u]) = true := hDd
    try walk_at "go"
    intro m0 H11 m1 m2 b11 p11
    obtain ⟨m, rfl⟩ : ∃ m : Nat, m0 = (m : Int) := ⟨m0.toNat, by omega⟩
    have m3 : m < 3 := by omega
    have hT11 : H11 T = some (.tup [.int a, oV l, oV u]) := b11 _ _ (ne_of hT10 p10.choose_spec.choose_spec.1 (by intro z; cases z)) hT10
    obtain ⟨x, hx⟩ : ∃ x, ([V.int a, oV l, oV u])[m]? = some x := ⟨_, List.getElem?_eq_getElem m3⟩
    have ixm : atI [V.int a, oV l, oV u] (m : Int) = some x := atI_nat hx
    refine ⟨fun σ H' => Kept (∃ (m' : Nat) (y : Int), m' < 3 ∧ ([V.int a, oV l, oV u])[m']? = some (.int y) ∧ σ = [some (.ref p), some (.ref Lq), some (.ref T), some (.int m'), none, none] ∧ H' = H11), ?_, ?_⟩
    · try walk_at "go"
      refine ite2 (fun c => ?_) (fun c => ?_)
      · try walk_at "go"
        exact ⟨⟨0, a, by decide, rfl, rfl, rfl⟩⟩
      · try walk_at "go"
        have hy : ∃ y, x = .int y := by
          have hm := List.mem_of_getElem? hx
          simp only [List.mem_cons, List.not_mem_nil, or_false] at hm
          have no : ∀ o : Option Int, x = oV o → ∃ y, x = .int y := fun o h => by
            cases o with
            | none => exact absurd (show decide (x = V.non) = true by rw [h]; exact decide_eq_true rfl) c
            | some y => exact ⟨y, h⟩
          rcases hm with h | h | h
          · exact ⟨a, h⟩
          · exact no _ h
          · exact no _ h
        obtain ⟨y, rfl⟩ := hy
        exact ⟨⟨m, y, m3, hx, rfl, rfl⟩⟩
    rintro _ H12 ⟨⟨m', y, m3', hy, rfl, rfl⟩⟩
    have ixy : atI [V.int a, oV l, oV u] (m' : Int) = some (.int y) := atI_nat hy
    try walk_at "go"
    intro A H13 S13 oA
    rw [cut_toU] at oA
    have hT13 := S13 _ _ hT11
    try walk_at "go"
    intro C hC
    generalize eH14 : upd _ C _ = H14
    have SH14 := newS eH14 hC
    have oC := newO eH14
    have oA14 := SH14 _ _ oA
    have hT14 := SH14 _ _ hT13
    have l1 : ([V.int a, oV l, oV u].take m').length + [V.bl (decide (V.int y = V.int 1))].length ≤ sizeLine := by rw [List.length_take]; exact small (by show min m' 3 + 1 ≤ 1000; omega)
    try walk_at "go"
    intro D H15 S15 oD'
    have hT15 := S15 _ _ hT14
    try walk_at "go"
    intro E H16 S16 oE
    have ea : (m' : Int) + 1 = ((m' + 1 : Nat) : Int) := by omega
    rw [ea, cut_fromU] at oE
    have oD16 := S16 _ _ oD'
    have l2 : ([V.int a, oV l, oV u].take m' ++ [V.bl (decide (V.int y = V.int 1))]).length + ([V.int a, oV l, oV u].drop (m' + 1)).length ≤ sizeLine := by rw [List.length_append, List.length_take, List.length_drop]; exact small (by show min m' 3 + 1 + (3 - (m' + 1)) ≤ 1000; omega)
    try walk_at "go"
    intro W H17 S17 oW
    have S1117 := S13.trans (SH14.trans (S15.trans (S16.trans S17)))
    have hT17 := S1117 _ _ hT11
    have thT : Th K p H17 (.ref T) (.tuple [.int a, oD l, oD u]) := Th.tup (tr := [(.int a, .int a), (oV l, oD l), (oV u, oD u)]) hT17 fun t ht => by
      simp only [List.mem_cons, List.not_mem_nil, or_false] at ht
      rcases ht with rfl | rfl | rfl
      · exact .int _
      · exact oV_th l
      · exact oV_th u
    have thW : Th K p H17 (.ref W) (.tuple (([PyData.int a, oD l, oD u]).take m' ++ [.bool (decide (V.int y = V.int 1))] ++ ([PyData.int a, oD l, oD u]).drop (m' + 1))) := by
      let tr : List (V × PyData) := [(.int a, .int a), (oV l, oD l), (oV u, oD u)]
      have := Th.tup (K := K) (p := p) (H := H17) (a := W) (tr := tr.take m' ++ [(.bl (decide (V.int y = V.int 1)), .bool (decide (V.int y = V.int 1)))] ++ tr.drop (m' + 1)) (by rw [oW, List.map_append, List.map_append, List.map_take, List.map_drop] <;> rfl) fun t ht => by
        have all1 : ∀ t ∈ tr, Th K p H17 t.1 t.2 := fun t ht => by
          simp only [tr, List.mem_cons, List.not_mem_nil, or_false] at ht
          rcases ht with rfl | rfl | rfl
          · exact .int _
          · exact oV_th l
          · exact oV_th u
        rcases List.mem_append.mp ht with ht | ht
        · rcases List.mem_append.mp ht with ht | ht
          · exact all1 t (List.mem_of_mem_take ht)
          · cases List.mem_singleton.mp ht
            exact .bl _
        · exact all1 t (List.mem_of_mem_drop ht)
      rw [List.map_append, List.map_append, List.map_take, List.map_drop] at this
      exact this
    have tn := twin_no (a := a) (l := l) (u := u) m' m3' (decide (V.int y = V.int 1))
    generalize hdw : PyData.tuple (([PyData.int a, oD l, oD u]).take m' ++ [.bool (decide (V.int y = V.int 1))] ++ ([PyData.int a, oD l, oD u]).drop (m' + 1)) = dw at thW tn
    try walk_at "go"
    refine for_range (lo := 0) (n := 2) (fun i σ H' => Kept (∃ w : Option V, σ = [some (.ref p), some (.ref Lq), some (.ref T), some (.int m'), some (.ref W), w] ∧ H' = H17)) ⟨_, rfl, rfl⟩ ?_ ?_
    · rintro i σ _ hi ⟨w, rfl, rfl⟩
      try walk_at "go"
      rw [hDd]
      refine ifF (by decide) ?_
      try walk_at "go"
      rw [tn]
      refine ifF (by decide) ?_
      try walk_at "go"
      exact ⟨⟨_, rfl, rfl⟩⟩
    rintro σ _ ⟨w, rfl, rfl⟩
    try walk_at "go"
    exact q _ (B10.trans (b11.trans (same_but S1117))) (p11.same S1117)
omit B in
theorem deed_wg {d : Dd} (h : d.In (10 ^ 29 + 3)) : Wg (.tuple [.int d.add, oD d.low, oD d.high]) 3 300000 (10 ^ 30) := by
  obtain ⟨h1, h2, h3, h4⟩ := h
  have zo : ∀ o : Option Int, (∀ l, o = some l → -(10 ^ 29 + 3) ≤ l ∧ l ≤ 10 ^ 29 + 3) → Wg (oD o) 2 30000 (10 ^ 30) := fun o h => wg_o fun i e => by have := h i e; omega
  have hw := Wgs.cons (wg_int (i := d.add) (b := 10 ^ 30) (by omega)) (Wgs.cons (zo _ h3) (Wgs.cons (zo _ h4) (Wgs.nil (c := 0))))
  exact (Wg.tup hw).mono (by decide) (by decide) (Nat.le_refl _)
def spLaw (K : PySem.W.Frag) : Sp := fun vs H Q _ => ∃ (a : Addr) (ns : List Int), vs = [.ref a] ∧ SqL K H a (ns.map V.int) ∧ ns.length ≤ 63 ∧ ∀ H', Q (.bl true) H'
theorem k_law {f : Addr} {fd : FuncData} (F : Fun K "law" "law" s_law f fd) (D__law_pot : Dn P w K mg base 1 "_law_pot" ["_law_script", "_law_k"] (spPot K)) (D__law_take : Dn P w K mg base 1 "_law_take" ["_law_pot_here", "_law_many"] spTake) (D__law_deed : Dn P w K mg base 3 "_law_deed" ["_law_pot_here"] spDeed) (D__law_is_deed : Dn P w K mg base 3 "_law_is_deed" ["_law_thing"] (spLDeedT K)) (D__law_spoilt : Dn P w K mg base 4 "_law_spoilt" ["_law_pot_here", "_law_deed_here"] (spSpN K)) (D_is_deed : Dn P w K mg base 3 "is_deed" ["thing"] (spDeedT K)) (D__law_truths_right : Dn P w K mg base 5 "_law_truths_right" ["_law_pot_here"] (spTrN K)) : FnG P w K mg base CX0 6 f fd ["_law_script"] (spLaw K) := by
  refine okG0 F sc_law (fun vs H Q E h => ?_) (fun cdv A outer s H vs Q E hr h => ⟨_, (pss_cons (ps_for PassesOwn.never rfl (pi_range1 (by rfl) B.range_ (pa_cons (pe_op op_add (pe_callB (call_min2 rfl) (by rfl) B.min_ (by decide +kernel) (pa_cons (pe_callB (lenK (K := K)) (by rfl) B.len_ (by decide +kernel) (pa_cons (pv 0) pa_nil)) (pa_cons pe_int pa_nil))) pe_int) pa_nil)) (pg_name (i := 1) sc_law.nd rfl (Or.inl rfl))
      (pss_cons (ps_set (i := 2) sc_law.nd rfl (Or.inl rfl) (pe_cD D__law_pot (hr.less (by decide)) rfl (pa_cons (pv 0) (pa_cons (pv 1) pa_nil))))
      (pss_cons (ps_set (i := 3) sc_law.nd rfl (Or.inl rfl) (pe_cD D__law_deed (hr.less (by decide)) rfl (pa_cons (pv 2) pa_nil)))
      (pss_cons (ps_for PassesOwn.never rfl (pi_range1 (by rfl) B.range_ (pa_cons (pe_cD D__law_take (hr.less (by decide)) rfl (pa_cons (pv 2) (pa_cons pe_int pa_nil))) pa_nil)) (pg_name (i := 4) sc_law.nd rfl (Or.inl rfl))
        (pss_one (ps_if (pt_val (pe_cD D__law_is_deed (hr.less (by decide)) rfl (pa_cons (pv 3) pa_nil)))
         (pss_one (ps_set (i := 3) sc_law.nd rfl (Or.inl rfl) (pe_cD D__law_spoilt (hr.less (by decide)) rfl (pa_cons (pv 2) (pa_cons (pv 3) pa_nil)))))
         pss_nil)))
      (pss_cons (ps_set (i := 5) sc_law.nd rfl (Or.inl rfl) (pe_callB (reprO (K := K) hr) (by rfl) B.repr_ (by decide +kernel) (pa_cons (pv 3) pa_nil)))
      (pss_cons (ps_set (i := 6) sc_law.nd rfl (Or.inl rfl) (pe_cD D__law_is_deed (hr.less (by decide)) rfl (pa_cons (pv 3) pa_nil)))
      (pss_cons (ps_if (PW.pt (pw_or (pt_cmpR op_ne (pe_callB (reprO (K := K) hr) (by rfl) B.repr_ (by decide +kernel) (pa_cons (pe_cD D_is_deed (hr.less (by decide)) rfl (pa_cons (pv 3) pa_nil)) pa_nil)) (pe_callB (reprO (K := K) hr) (by rfl) B.repr_ (by decide +kernel) (pa_cons (pv 6) pa_nil)) (nomark _)) (pw_or (pt_cmpR op_ne (pe_callB (reprO (K := K) hr) (by rfl) B.repr_ (by decide +kernel) (pa_cons (pe_cD D_is_deed (hr.less (by decide)) rfl (pa_cons (pv 3) pa_nil)) pa_nil)) (pe_callB (reprO (K := K) hr) (by rfl) B.repr_ (by decide +kernel) (pa_cons (pv 6) pa_nil)) (nomark _)) (pw_or1 (pt_cmpR op_ne (pe_callB (reprO (K := K) hr) (by rfl) B.repr_ (by decide +kernel) (pa_cons (pv 3) pa_nil)) (pv 5) (nomark _))))))
        (pss_one (ps_ret pe_bl))
        pss_nil)
      (pss_one (ps_if (pt_not (pt_val (pe_cD D__law_truths_right (hr.less (by decide)) rfl (pa_cons (pv 2) pa_nil))))
       (pss_one (ps_ret pe_bl))
       pss_nil)))))))))
    (pss_one (ps_ret (pe_cmpR op_isBl (pe_cD D_is_deed (hr.less (by decide)) rfl (pa_cons (pe_tup (pa_cons pe_int (pa_cons pe_non (pa_cons pe_non pa_nil)))) pa_nil)) pe_bl (nomark _))))), ?_⟩)
  · obtain ⟨a, ns, rfl, _⟩ := h; rfl
  · obtain ⟨a, ns, rfl, hs, hn, q⟩ := h
    try walk_at "go"
    have hN : ((if 10 < (((ns.map V.int).length : Nat) : Int) then 10 else (((ns.map V.int).length : Nat) : Int)) + 1).toNat ≤ 11 := by split <;> omega
    generalize ((if 10 < (((ns.map V.int).length : Nat) : Int) then 10 else (((ns.map V.int).length : Nat) : Int)) + 1).toNat = n at hN
    refine for_range (lo := 0) (n := n) (fun i σ H' => Kept (∃ s1 s2 s3 s4 s5 s6, σ = [some (.ref a), s1, s2, s3, s4, s5, s6] ∧ Same H H')) ⟨⟨_, _, _, _, _, _, rfl, Same.refl _⟩⟩ ?_ ?_
    · rintro i σ H1 hi ⟨s1, s2, s3, s4, s5, s6, rfl, S1⟩
      rw [Int.zero_add]
      have hs1 := S1.seq hs
      have i60 : i ≤ 60 := by omega
      try walk_at "go"
      intro p H2 np S2 p2
      try walk_at "go"
      intro T d H3 b3 p3 nT oT dI dO
      have th3 : Th K p H3 (.ref T) (.tuple [.int d.add, oD d.low, oD d.high]) := Th.tup (tr := [(.int d.add, .int d.add), (oV d.low, oD d.low), (oV d.high, oD d.high)]) oT fun t ht => by
        simp only [List.mem_cons, List.not_mem_nil, or_false] at ht
        rcases ht with rfl | rfl | rfl
        · exact .int _
        · exact oV_th _
        · exact oV_th _
      have wg3 : Wg (.tuple [.int d.add, oD d.low, oD d.high]) 3 300000 (10 ^ 30) := deed_wg dI
      try walk_at "go"
      intro m H4 m0 m1 b4 p4
      try walk_at "go"
      refine for_range (lo := 0) (n := m.toNat) (fun j σ H' => Kept (∃ (v : V) (dd : PyData) (w : Option V), σ = [some (.ref a), some (.int i), some (.ref p), some v, w, s5, s6] ∧ But p H2 H' ∧ PotAt H' p ∧ Th K p H' v dd ∧ Wg dd 3 300000 (10 ^ 30 + j))) ⟨⟨_, _, _, rfl, b3.trans b4, p4, th3.but b4 p3.choose_spec.choose_spec.1, wg3⟩⟩ ?_ ?_
      · rintro j σ H5 hj ⟨v, dd, w, rfl, b5, p5, th5, wg5⟩
        try walk_at "go"
        intro H6 S6
        have th6 := th5.same S6
        have p6 := p5.same S6
        cases e : isDd dd with
        | false =>
          try walk_at "go"
          refine ifF rfl ?_
          try walk_at "go"
          exact ⟨⟨_, _, _, rfl, b5.trans (same_but S6), p6, th6, wg5.mono (Nat.le_refl _) (Nat.le_refl _) (by omega)⟩⟩
        | true =>
          obtain ⟨T5, x, l, u, rfl, hT5, rfl⟩ := deed_of th6 e
          have ib3 : (PyData.tuple [.int x, oD l, oD u]) = (PyData.tuple [.int x, oD l, oD u]) := rfl
          have hb := wg5.big
          have hx : x.natAbs ≤ 10 ^ 30 + j := Nat.le_trans (Nat.le_max_left _ _) hb
          have ho : ∀ o : Option Int, ib (oD o) ≤ 10 ^ 30 + j → oB o (10 ^ 30 + j) := fun o h i e => by rw [e] at h; exact h
          have hl : oB l (10 ^ 30 + j) := ho _ (Nat.le_trans (Nat.le_max_left _ _) (Nat.le_trans (Nat.le_max_right _ _) hb))
          have hu : oB u (10 ^ 30 + j) := ho _ (Nat.le_trans (Nat.le_max_left _ _) (Nat.le_trans (Nat.le_max_right _ _) (Nat.le_trans (Nat.le_max_right _ _) hb)))
          have q1 : 10 ^ 29 ≤ 10 ^ 30 + j := by omega
          have q2 : 10 ^ 30 + j ≤ 10 ^ 80 := by omega
          try walk_at "go"
          intro v d6 H7 b7 p7 th7 wg7
          exact ⟨⟨_, _, _, rfl, (b5.trans (same_but S6)).trans b7, p7, th7, wg7⟩⟩
      rintro σ H5 ⟨v, dd, w, rfl, b5, p5, th5, wg5⟩
      have j3 : m.toNat ≤ 3 := by omega
      have wk := wg5.mono (b' := 10 ^ 31) (Nat.le_refl _) (Nat.le_refl _) (by omega)
      have ks : dd.showable = true := wk.shw
      have kdep : dd.depth ≤ 60 := Nat.le_trans wk.dep (by decide)
      have kz : dd.shown.length ≤ sizeLine := wk.sz
      have bok : ∀ b : Bool, (PyData.bool b).showable = true ∧ (PyData.bool b).depth ≤ 60 ∧ (PyData.bool b).shown.length ≤ sizeLine := fun b => ⟨rfl, Nat.zero_le _, shown_wz rfl (by show 5 ≤ 10000000; decide)⟩
      obtain ⟨y1, y2, y3⟩ := bok (isDd dd)
      try walk_at "go"
      intro H6 S6
      have th6 := th5.same S6
      have tb : ∀ H', Th K p H' (.bl (isDd dd)) (.bool (isDd dd)) := fun H' => .bl _
      have tb6 := tb H6
      have p6 := p5.same S6
      try walk_at "go"
      refine ifF (dec_ne rfl) ?_
      try walk_at "go"
      refine ifF (dec_ne rfl) ?_
      try walk_at "go"
      refine ifF (dec_ne rfl) ?_
      try walk_at "go"
      intro H7 b7 p7
      try walk_at "go"
      exact ⟨⟨_, _, _, _, _, _, rfl, S1.trans (but_same np S2 (b5.trans ((same_but S6).trans b7)))⟩⟩
    · rintro σ H1 ⟨s1, s2, s3, s4, s5, s6, rfl, S1⟩
      try walk_at "go"
      intro T0 hT0
      generalize eH2 : upd _ T0 _ = H2
      have SH2 := newS eH2 hT0
      have oT0 := newO eH2
      have th : Th K (0 : Addr) H2 (.ref T0) (.tuple [.int 0, .none, .none]) := Th.tup (tr := [(.int 0, .int 0), (.non, .none), (.non, .none)]) oT0 fun t ht => by
        simp only [List.mem_cons, List.not_mem_nil, or_false] at ht
        rcases ht with rfl | rfl | rfl
        · exact .int _
        · exact .non
        · exact .non
      have e : isDd (.tuple [.int 0, .none, .none]) = true := rfl
      try walk_at "go"
      exact q _
end
structure AllD (K : PySem.W.Frag) (mg : Str → Option Value) : Prop where
  d_is_whole : Df K mg "is_whole" s_is_whole ["thing"]
  d_is_row_of : Df K mg "is_row_of" s_is_row_of ["thing", "many"]
  d_is_end : Df K mg "is_end" s_is_end ["thing"]
  d_is_deed : Df K mg "is_deed" s_is_deed ["thing"]
  d__law_pot : Df K mg "_law_pot" s__law_pot ["_law_script", "_law_k"]
  d__law_take : Df K mg "_law_take" s__law_take ["_law_pot_here", "_law_many"]
  d__law_number : Df K mg "_law_number" s__law_number ["_law_pot_here"]
  d__law_deed : Df K mg "_law_deed" s__law_deed ["_law_pot_here"]
  d__law_odd : Df K mg "_law_odd" s__law_odd ["_law_pot_here"]
  d__law_spoilt : Df K mg "_law_spoilt" s__law_spoilt ["_law_pot_here", "_law_deed_here"]
  d__law_whole : Df K mg "_law_whole" s__law_whole ["_law_thing"]
  d__law_is_deed : Df K mg "_law_is_deed" s__law_is_deed ["_law_thing"]
  d__law_truths_right : Df K mg "_law_truths_right" s__law_truths_right ["_law_pot_here"]
  d_law : Df K mg "law" s_law ["_law_script"]
  bl : Bl K mg
theorem all_mk {w : World} {K : PySem.W.Frag} {h : Heap} {mg : Str → Option Value} (X : K.In h) (G : h.Ns mainGlobals mg)
    {f1 f2 f3 f4 f5 f6 f7 f8 f9 f10 f11 f12 f13 f14 : Addr} {od1 an1 od2 an2 od3 an3 od4 an4 od5 an5 od6 an6 od7 an7 od8 an8 od9 an9 od10 an10 od11 an11 od12 an12 od13 an13 od14 an14 : Option Addr} {sl1 sl2 sl3 sl4 sl5 sl6 sl7 sl8 sl9 sl10 sl11 sl12 sl13 sl14 : Array (Option Value)} {oc1 kV1 dc1 pm1 cd1 ct1 oc2 kV2 dc2 pm2 cd2 ct2 oc3 kV3 dc3 pm3 cd3 ct3 oc4 kV4 dc4 pm4 cd4 ct4 oc5 kV5 dc5 pm5 cd5 ct5 oc6 kV6 dc6 pm6 cd6 ct6 oc7 kV7 dc7 pm7 cd7 ct7 oc8 kV8 dc8 pm8 cd8 ct8 oc9 kV9 dc9 pm9 cd9 ct9 oc10 kV10 dc10 pm10 cd10 ct10 oc11 kV11 dc11 pm11 cd11 ct11 oc12 kV12 dc12 pm12 cd12 ct12 oc13 kV13 dc13 pm13 cd13 ct13 oc14 kV14 dc14 pm14 cd14 ct14 : Value}
    (a1 : PySem.W.nsIn K mainGlobals "is_whole" = some (some (.ref f1))) (l1 : K.lookup f1 = some ⟨oc1, od1, .func (PySem.W.fnOf "is_whole" "is_whole" (defArgs s_is_whole) (defBody s_is_whole) (defScope s_is_whole) .none kV1 dc1 pm1 an1 cd1 ct1), sl1⟩) (c1 : PySem.W.codeIn K cd1 "is_whole" = true) (k1 : PySem.W.keepIn K (.ref f1) = true)
    (a2 : PySem.W.nsIn K mainGlobals "is_row_of" = some (some (.ref f2))) (l2 : K.lookup f2 = some ⟨oc2, od2, .func (PySem.W.fnOf "is_row_of" "is_row_of" (defArgs s_is_row_of) (defBody s_is_row_of) (defScope s_is_row_of) .none kV2 dc2 pm2 an2 cd2 ct2), sl2⟩) (c2 : PySem.W.codeIn K cd2 "is_row_of" = true) (k2 : PySem.W.keepIn K (.ref f2) = true)
    (a3 : PySem.W.nsIn K mainGlobals "is_end" = some (some (.ref f3))) (l3 : K.lookup f3 = some ⟨oc3, od3, .func (PySem.W.fnOf "is_end" "is_end" (defArgs s_is_end) (defBody s_is_end) (defScope s_is_end) .none kV3 dc3 pm3 an3 cd3 ct3), sl3⟩) (c3 : PySem.W.codeIn K cd3 "is_end" = true) (k3 : PySem.W.keepIn K (.ref f3) = true)
    (a4 : PySem.W.nsIn K mainGlobals "is_deed" = some (some (.ref f4))) (l4 : K.lookup f4 = some ⟨oc4, od4, .func (PySem.W.fnOf "is_deed" "is_deed" (defArgs s_is_deed) (defBody s_is_deed) (defScope s_is_deed) .none kV4 dc4 pm4 an4 cd4 ct4), sl4⟩) (c4 : PySem.W.codeIn K cd4 "is_deed" = true) (k4 : PySem.W.keepIn K (.ref f4) = true)
    (a5 : PySem.W.nsIn K mainGlobals "_law_pot" = some (some (.ref f5))) (l5 : K.lookup f5 = some ⟨oc5, od5, .func (PySem.W.fnOf "_law_pot" "_law_pot" (defArgs s__law_pot) (defBody s__law_pot) (defScope s__law_pot) .none kV5 dc5 pm5 an5 cd5 ct5), sl5⟩) (c5 : PySem.W.codeIn K cd5 "_law_pot" = true) (k5 : PySem.W.keepIn K (.ref f5) = true)
    (a6 : PySem.W.nsIn K mainGlobals "_law_take" = some (some (.ref f6))) (l6 : K.lookup f6 = some ⟨oc6, od6, .func (PySem.W.fnOf "_law_take" "_law_take" (defArgs s__law_take) (defBody s__law_take) (defScope s__law_take) .none kV6 dc6 pm6 an6 cd6 ct6), sl6⟩) (c6 : PySem.W.codeIn K cd6 "_law_take" = true) (k6 : PySem.W.keepIn K (.ref f6) = true)
    (a7 : PySem.W.nsIn K mainGlobals "_law_number" = some (some (.ref f7))) (l7 : K.lookup f7 = some ⟨oc7, od7, .func (PySem.W.fnOf "_law_number" "_law_number" (defArgs s__law_number) (defBody s__law_number) (defScope s__law_number) .none kV7 dc7 pm7 an7 cd7 ct7), sl7⟩) (c7 : PySem.W.codeIn K cd7 "_law_number" = true) (k7 : PySem.W.keepIn K (.ref f7) = true)
    (a8 : PySem.W.nsIn K mainGlobals "_law_deed" = some (some (.ref f8))) (l8 : K.lookup f8 = some ⟨oc8, od8, .func (PySem.W.fnOf "_law_deed" "_law_deed" (defArgs s__law_deed) (defBody s__law_deed) (defScope s__law_deed) .none kV8 dc8 pm8 an8 cd8 ct8), sl8⟩) (c8 : PySem.W.codeIn K cd8 "_law_deed" = true) (k8 : PySem.W.keepIn K (.ref f8) = true)
    (a9 : PySem.W.nsIn K mainGlobals "_law_odd" = some (some (.ref f9))) (l9 : K.lookup f9 = some ⟨oc9, od9, .func (PySem.W.fnOf "_law_odd" "_law_odd" (defArgs s__law_odd) (defBody s__law_odd) (defScope s__law_odd) .none kV9 dc9 pm9 an9 cd9 ct9), sl9⟩) (c9 : PySem.W.codeIn K cd9 "_law_odd" = true) (k9 : PySem.W.keepIn K (.ref f9) = true)
    (a10 : PySem.W.nsIn K mainGlobals "_law_spoilt" = some (some (.ref f10))) (l10 : K.lookup f10 = some ⟨oc10, od10, .func (PySem.W.fnOf "_law_spoilt" "_law_spoilt" (defArgs s__law_spoilt) (defBody s__law_spoilt) (defScope s__law_spoilt) .none kV10 dc10 pm10 an10 cd10 ct10), sl10⟩) (c10 : PySem.W.codeIn K cd10 "_law_spoilt" = true) (k10 : PySem.W.keepIn K (.ref f10) = true)
    (a11 : PySem.W.nsIn K mainGlobals "_law_whole" = some (some (.ref f11))) (l11 : K.lookup f11 = some ⟨oc11, od11, .func (PySem.W.fnOf "_law_whole" "_law_whole" (defArgs s__law_whole) (defBody s__law_whole) (defScope s__law_whole) .none kV11 dc11 pm11 an11 cd11 ct11), sl11⟩) (c11 : PySem.W.codeIn K cd11 "_law_whole" = true) (k11 : PySem.W.keepIn K (.ref f11) = true)
    (a12 : PySem.W.nsIn K mainGlobals "_law_is_deed" = some (some (.ref f12))) (l12 : K.lookup f12 = some ⟨oc12, od12, .func (PySem.W.fnOf "_law_is_deed" "_law_is_deed" (defArgs s__law_is_deed) (defBody s__law_is_deed) (defScope s__law_is_deed) .none kV12 dc12 pm12 an12 cd12 ct12), sl12⟩) (c12 : PySem.W.codeIn K cd12 "_law_is_deed" = true) (k12 : PySem.W.keepIn K (.ref f12) = true)
    (a13 : PySem.W.nsIn K mainGlobals "_law_truths_right" = some (some (.ref f13))) (l13 : K.lookup f13 = some ⟨oc13, od13, .func (PySem.W.fnOf "_law_truths_right" "_law_truths_right" (defArgs s__law_truths_right) (defBody s__law_truths_right) (defScope s__law_truths_right) .none kV13 dc13 pm13 an13 cd13 ct13), sl13⟩) (c13 : PySem.W.codeIn K cd13 "_law_truths_right" = true) (k13 : PySem.W.keepIn K (.ref f13) = true)
    (a14 : PySem.W.nsIn K mainGlobals "law" = some (some (.ref f14))) (l14 : K.lookup f14 = some ⟨oc14, od14, .func (PySem.W.fnOf "law" "law" (defArgs s_law) (defBody s_law) (defScope s_law) .none kV14 dc14 pm14 an14 cd14 ct14), sl14⟩) (c14 : PySem.W.codeIn K cd14 "law" = true) (k14 : PySem.W.keepIn K (.ref f14) = true)
    (z0 : PySem.W.nsIn K mainGlobals "abs" = some none)
    (z1 : PySem.W.nsIn K mainGlobals "all" = some none)
    (z2 : PySem.W.nsIn K mainGlobals "bool" = some none)
    (z3 : PySem.W.nsIn K mainGlobals "divmod" = some none)
    (z4 : PySem.W.nsIn K mainGlobals "int" = some none)
    (z5 : PySem.W.nsIn K mainGlobals "isinstance" = some none)
    (z6 : PySem.W.nsIn K mainGlobals "len" = some none)
    (z7 : PySem.W.nsIn K mainGlobals "list" = some none)
    (z8 : PySem.W.nsIn K mainGlobals "max" = some none)
    (z9 : PySem.W.nsIn K mainGlobals "min" = some none)
    (z10 : PySem.W.nsIn K mainGlobals "range" = some none)
    (z11 : PySem.W.nsIn K mainGlobals "repr" = some none)
    (z12 : PySem.W.nsIn K mainGlobals "tuple" = some none)
    : AllD K mg := by
  exact ⟨Df.of l1 c1 k1 (PySem.W.mg_of X G a1) (fun _ _ _ _ _ _ us hl => match us, hl with | [_], _ => rfl), Df.of l2 c2 k2 (PySem.W.mg_of X G a2) (fun _ _ _ _ _ _ us hl => match us, hl with | [_, _], _ => rfl), Df.of l3 c3 k3 (PySem.W.mg_of X G a3) (fun _ _ _ _ _ _ us hl => match us, hl with | [_], _ => rfl), Df.of l4 c4 k4 (PySem.W.mg_of X G a4) (fun _ _ _ _ _ _ us hl => match us, hl with | [_], _ => rfl), Df.of l5 c5 k5 (PySem.W.mg_of X G a5) (fun _ _ _ _ _ _ us hl => match us, hl with | [_, _], _ => rfl), Df.of l6 c6 k6 (PySem.W.mg_of X G a6) (fun _ _ _ _ _ _ us hl => match us, hl with | [_, _], _ => rfl), Df.of l7 c7 k7 (PySem.W.mg_of X G a7) (fun _ _ _ _ _ _ us hl => match us, hl with | [_], _ => rfl), Df.of l8 c8 k8 (PySem.W.mg_of X G a8) (fun _ _ _ _ _ _ us hl => match us, hl with | [_], _ => rfl), Df.of l9 c9 k9 (PySem.W.mg_of X G a9) (fun _ _ _ _ _ _ us hl => match us, hl with | [_], _ => rfl), Df.of l10 c10 k10 (PySem.W.mg_of X G a10) (fun _ _ _ _ _ _ us hl => match us, hl with | [_, _], _ => rfl), Df.of l11 c11 k11 (PySem.W.mg_of X G a11) (fun _ _ _ _ _ _ us hl => match us, hl with | [_], _ => rfl), Df.of l12 c12 k12 (PySem.W.mg_of X G a12) (fun _ _ _ _ _ _ us hl => match us, hl with | [_], _ => rfl), Df.of l13 c13 k13 (PySem.W.mg_of X G a13) (fun _ _ _ _ _ _ us hl => match us, hl with | [_], _ => rfl), Df.of l14 c14 k14 (PySem.W.mg_of X G a14) (fun _ _ _ _ _ _ us hl => match us, hl with | [_], _ => rfl), ⟨PySem.W.mg_none_of X G z0, PySem.W.mg_none_of X G z1, PySem.W.mg_none_of X G z2, PySem.W.mg_none_of X G z3, PySem.W.mg_none_of X G z4, PySem.W.mg_none_of X G z5, PySem.W.mg_none_of X G z6, PySem.W.mg_none_of X G z7, PySem.W.mg_none_of X G z8, PySem.W.mg_none_of X G z9, PySem.W.mg_none_of X G z10, PySem.W.mg_none_of X G z11, PySem.W.mg_none_of X G z12⟩⟩

theorem law_fd {P : Program} {w : World} {K : PySem.W.Frag} {mg : Str → Option Value} {fa : Addr} (A : AllD K mg) (hfa : mg "law" = some (.ref fa)) :
    ∃ fd : FuncData, (∀ (s : Shared) (v : Value), BindsTo s fd ⟨[v], []⟩ [("_law_script", v)]) ∧ ∀ base : Heap, K.In base → base.Ns mainGlobals mg → FnG P w K mg base CX0 6 fa fd ["_law_script"] (spLaw K) := by
  obtain ⟨f, fd, F, m, b⟩ := A.d_law.ex
  have e := hfa.symm.trans m
  cases e
  refine ⟨fd, fun s v => by obtain ⟨oc, od, kV, doc, pm, an, cdv, ct, osl, rfl, lk, hcd⟩ := F.ex; exact .of_eq rfl, fun base _ _ => ?_⟩
  have B := A.bl
  have D_is_whole : Dn P w K mg base 1 "is_whole" ["thing"] (spWhT K) := k_is_whole B A.d_is_whole 
  have D_is_row_of : Dn P w K mg base 1 "is_row_of" ["thing", "many"] (spRowT K) := k_is_row_of B A.d_is_row_of 
  have D_is_end : Dn P w K mg base 2 "is_end" ["thing"] (spEndT K) := k_is_end B A.d_is_end D_is_whole
  have D_is_deed : Dn P w K mg base 3 "is_deed" ["thing"] (spDeedT K) := k_is_deed B A.d_is_deed D_is_whole D_is_row_of D_is_end
  have D__law_whole : Dn P w K mg base 1 "_law_whole" ["_law_thing"] (spWhT2 K) := k__law_whole B A.d__law_whole 
  have D__law_is_deed : Dn P w K mg base 3 "_law_is_deed" ["_law_thing"] (spLDeedT K) := k__law_is_deed B A.d__law_is_deed D__law_whole
  have D__law_pot : Dn P w K mg base 1 "_law_pot" ["_law_script", "_law_k"] (spPot K) := k__law_pot B A.d__law_pot 
  have D__law_take : Dn P w K mg base 1 "_law_take" ["_law_pot_here", "_law_many"] spTake := k__law_take B A.d__law_take 
  have D__law_number : Dn P w K mg base 2 "_law_number" ["_law_pot_here"] spNumber := k__law_number B A.d__law_number D__law_take
  have D__law_deed : Dn P w K mg base 3 "_law_deed" ["_law_pot_here"] spDeed := k__law_deed B A.d__law_deed D__law_take D__law_number
  have D__law_odd : Dn P w K mg base 2 "_law_odd" ["_law_pot_here"] (spOddN K) := k__law_odd B A.d__law_odd D__law_take
  have D__law_spoilt : Dn P w K mg base 4 "_law_spoilt" ["_law_pot_here", "_law_deed_here"] (spSpN K) := k__law_spoilt B A.d__law_spoilt D__law_take D__law_odd D__law_number
  have D__law_truths_right : Dn P w K mg base 5 "_law_truths_right" ["_law_pot_here"] (spTrN K) := k__law_truths_right B A.d__law_truths_right D__law_take D_is_deed
  exact k_law B F D__law_pot D__law_take D__law_deed D__law_is_deed D__law_spoilt D_is_deed D__law_truths_right

theorem walk {l : PySem.W.OpenLaw} {q : Program} {loose : List Str} {XP : (Str → Option Value) → Heap → Prop} {YP : World → Heap → Prop} {d : DefRec} {K : Params → PySem.W.Frag} (hn : l.most = some 63) (hdf : d.params.defaults = [])
    (hY : ∀ (w : World) (h : Heap), YP w h → (K w.params).In h) (hname : d.name = "law") (F : ∀ (w : World) (mg : Str → Option Value) (h : Heap), (K w.params).In h → h.Ns mainGlobals mg → AllD (K w.params) mg) :
    PySem.W.WalkO q loose XP YP l.row.toRowW d [] (fun f vs => PySem.call f vs) :=
  walk_G (n := 63) (k := 6) (x := "_law_script") (sp := spLaw) hn (by decide) hdf ⟨rfl, by decide, by decide⟩ hY
    (fun w mg fa h KX G hfa => law_fd (F w mg h KX G) (by rw [hname] at hfa; exact hfa)) fun _ _ a ns hl hS => ⟨a, ns, rfl, hS, hl, fun _ => rfl⟩
end Toy
open PySem PySem.W PyProof.Rows
set_option maxRecDepth 100000 in
set_option maxHeartbeats 0 in
theorem PySem.Challenge.cw_joinedasks_k11_deeds_known_holds : PySem.Challenge.rw_joinedasks_k11_deeds_known.Holds := by
  w_on; o_law; k_head; (case hw => w_witness2)
  k_fill
  refine Toy.walk (l := PySem.Challenge.rw_joinedasks_k11_deeds_known) rfl rfl (fun w h Y => PySem.W.kIn_of Y) rfl ?F
  case F =>
    intro w mg h KX G
    refine' Toy.all_mk (w := w) KX G ?a1 ?l1 ?c1 ?k1 ?a2 ?l2 ?c2 ?k2 ?a3 ?l3 ?c3 ?k3 ?a4 ?l4 ?c4 ?k4 ?a5 ?l5 ?c5 ?k5 ?a6 ?l6 ?c6 ?k6 ?a7 ?l7 ?c7 ?k7 ?a8 ?l8 ?c8 ?k8 ?a9 ?l9 ?c9 ?k9 ?a10 ?l10 ?c10 ?k10 ?a11 ?l11 ?c11 ?k11 ?a12 ?l12 ?c12 ?k12 ?a13 ?l13 ?c13 ?k13 ?a14 ?l14 ?c14 ?k14 ?z0 ?z1 ?z2 ?z3 ?z4 ?z5 ?z6 ?z7 ?z8 ?z9 ?z10 ?z11 ?z12
    (case a1 => k_is)
    (case l1 => k_is)
    (case c1 => k_is)
    (case k1 => k_is)
    (case a2 => k_is)
    (case l2 => k_is)
    (case c2 => k_is)
    (case k2 => k_is)
    (case a3 => k_is)
    (case l3 => k_is)
    (case c3 => k_is)
    (case k3 => k_is)
    (case a4 => k_is)
    (case l4 => k_is)
    (case c4 => k_is)
    (case k4 => k_is)
    (case a5 => k_is)
    (case l5 => k_is)
    (case c5 => k_is)
    (case k5 => k_is)
    (case a6 => k_is)
    (case l6 => k_is)
    (case c6 => k_is)
    (case k6 => k_is)
    (case a7 => k_is)
    (case l7 => k_is)
    (case c7 => k_is)
    (case k7 => k_is)
    (case a8 => k_is)
    (case l8 => k_is)
    (case c8 => k_is)
    (case k8 => k_is)
    (case a9 => k_is)
    (case l9 => k_is)
    (case c9 => k_is)
    (case k9 => k_is)
    (case a10 => k_is)
    (case l10 => k_is)
    (case c10 => k_is)
    (case k10 => k_is)
    (case a11 => k_is)
    (case l11 => k_is)
    (case c11 => k_is)
    (case k11 => k_is)
    (case a12 => k_is)
    (case l12 => k_is)
    (case c12 => k_is)
    (case k12 => k_is)
    (case a13 => k_is)
    (case l13 => k_is)
    (case c13 => k_is)
    (case k13 => k_is)
    (case a14 => k_is)
    (case l14 => k_is)
    (case c14 => k_is)
    (case k14 => k_is)
    (case z0 => k_is)
    (case z1 => k_is)
    (case z2 => k_is)
    (case z3 => k_is)
    (case z4 => k_is)
    (case z5 => k_is)
    (case z6 => k_is)
    (case z7 => k_is)
    (case z8 => k_is)
    (case z9 => k_is)
    (case z10 => k_is)
    (case z11 => k_is)
    (case z12 => k_is)
#print axioms PySem.Challenge.cw_joinedasks_k11_deeds_known_holds

