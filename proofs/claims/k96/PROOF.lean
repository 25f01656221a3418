import PyProof.Rows.All
import Wide.All
import OpenK.AllK
import Wide.FinOn
import HandS.ForMost
import HandS.Defaults
import HandS.WideBits
import HandS.Conv
import HandS.IsInst
import HandS.RaiseMore
import HandS.SortInts
import HandS.Style
import HandS.Codes
import HandS.ForExc
import HandS.TryMany
import HandS.Flow
import KE.KEqSeq
import PyProof.ReprRoads
import KE.GoesMore
import KE.KDictZip
import PyProof.ListNew
import KE.KDictDisplayH
import HandS.TupLen
import KE.KDictSum
import HandS.TupAny
import HandS.Sort
import HandS.Zip
import KE.KDictCopyH
import HandS.TupSets
import PySem.Challenge.RW_joinedasks_k96_whole_deeds_of_few_states
set_option Elab.async false
set_option linter.all false
set_option maxRecDepth 100000
set_option maxHeartbeats 4000000
set_option exponentiation.threshold 100000
namespace Toy
open PySem PySem.Spec PyProof.Rows L2
/-- a def of the text stands behind its name -/
structure Df (K : PySem.W.Frag) (mg : Str → Option Value) (x : Str) (st : Stmt) (ps : List Str) : Prop where
  ex : ∃ f fd, Fun K x x st f fd ∧ mg x = some (.ref f) ∧ Binds K fd ps []
theorem Df.of {K : PySem.W.Frag} {mg : Str → Option Value} {x : Str} {st : Stmt} {ps : List Str} {f : Addr} {oc : Value} {od an : Option Addr} {osl : Array (Option Value)} {kV doc pm cdv ct : Value}
    (l : K.lookup f = some ⟨oc, od, .func (PySem.W.fnOf x x (defArgs st) (defBody st) (defScope st) .none kV doc pm an cdv ct), osl⟩) (c : PySem.W.codeIn K cdv x = true) (k : PySem.W.keepIn K (.ref f) = true) (m : mg x = some (.ref f))
    (h : ∀ (kV doc pm : Value) (an : Option Addr) (cdv ct : Value) (us : List Value), us.length = ps.length → bindArgs (PySem.W.fnOf x x (defArgs st) (defBody st) (defScope st) .none kV doc pm an cdv ct) ⟨us, []⟩ = pure (ps.zip us)) : Df K mg x st ps :=
  ⟨_, _, fun_mk l c k, m, (fun_mk l c k).binds h⟩
end Toy
namespace Toy
open PySem PySem.Spec PyProof.Rows L2
/-- room for calls, and nothing is being shown (repr, str of containers ask that) -/
structure RoomG (k : Nat) (A : Around) : Prop where
  room : Room k A
  idle : A.guards = some []
theorem RoomG.less {j k : Nat} {A : Around} (r : RoomG k A) (h : j ≤ k) : RoomG j A := ⟨r.room.mono h, r.idle⟩
theorem RoomG.units {k : Nat} {A : Around} (r : RoomG k A) : A.units + 64 < cLine := r.room.units
theorem RoomG.in_ {k : Nat} {A : Around} (r : RoomG (k + 1) A) (env : Env) : RoomG k (A.deeper env) := ⟨r.room.deeper env, r.idle⟩
/-- a def's promise under such a call -/
structure FnG (P : Program) (w : World) (K : PySem.W.Frag) (mg : Str → Option Value) (base : Heap) (CX : CXT) (k : Nat) (f : Addr) (fd : FuncData) (ps : List Str) (sp : Sp) : Prop where
  arity : ∀ vs H Q E, sp vs H Q E → vs.length = ps.length
  go : ∀ {A : Around} {outer : List Env} {s : Shared} {H : Hp} {args : Args} {us : List Value} {vs : List V} {Q : VK} {E : XK}, RoomG k A → Env0 P w K mg base A outer s H →
    BindsTo s fd args (ps.zip us) → Vals vs us → sp vs H Q E → codeAny (model P w) A (.call (.ref f) args) (CR CX outer P w H s Q E) s
section
variable {P : Program} {w : World} {K : PySem.W.Frag} {mg : Str → Option Value} {base : Heap} {CX : CXT}
/-- a body that ends well ends the call well -/
theorem flow_end {N : List Str} {qual : Str} {scope : Scope} {f : Addr} {cd : Value} {A : Around} {outer : List Env} {s : Shared} {H : Hp} {Q : VK} {E : XK} {fl : Flow} {s' : Shared}
    (h : SP (cxOf CX P w K mg base N qual scope f cd A outer s H E) [] { nx := fun _ H' => Q .non H', rt := Q } fl s') :
    ∃ u, (fl = .next ∧ u = Value.none ∨ fl = .ret u) ∧ CE outer P w H s Q u s' := by
  cases fl with
  | next =>
    obtain ⟨σ, H1, J, q⟩ := h
    exact ⟨_, .inl ⟨rfl, rfl⟩, .non, H1, J.os, J.bare, J.base, J.hok, rfl, q⟩
  | ret u =>
    obtain ⟨v, σ, H1, J, r, q⟩ := h
    exact ⟨u, .inr rfl, v, H1, J.os, J.bare, J.base, J.hok, r, q⟩
  | brk =>
    obtain ⟨_, _, _, q⟩ := h
    cases q
  | cont =>
    obtain ⟨_, _, _, q⟩ := h
    cases q
/-- a def of the text, whatever its defaults -/
structure FunA (K : PySem.W.Frag) (x qual : Str) (st : Stmt) (f : Addr) (fd : FuncData) : Prop where
  ex : ∃ (oc : Value) (od : Option Addr) (dV kV doc pm : Value) (an : Option Addr) (cdv ct : Value) (osl : Array (Option Value)),
    fd = PySem.W.fnOf x qual (defArgs st) (defBody st) (defScope st) dV kV doc pm an cdv ct ∧ K.lookup f = some ⟨oc, od, .func fd, osl⟩ ∧ PySem.W.codeIn K cdv qual = true
theorem toA {K : PySem.W.Frag} {x qual : Str} {st : Stmt} {f : Addr} {fd : FuncData} (F : Fun K x qual st f fd) : FunA K x qual st f fd := by
  obtain ⟨oc, od, kV, doc, pm, an, cdv, ct, osl, e, lk, hcd⟩ := F.ex
  exact ⟨⟨oc, od, .none, kV, doc, pm, an, cdv, ct, osl, e, lk, hcd⟩⟩
theorem okGA {x qual : Str} {st : Stmt} {f : Addr} {fd : FuncData} {N ps : List Str} {k : Nat} {sp : Sp} (F : FunA K x qual st f fd) (S : FnScope N ps (defScope st)) (ar : ∀ vs H Q E, sp vs H Q E → vs.length = ps.length)
    (body : ∀ (cdv : Value) (A : Around) (outer : List Env) (s : Shared) (H : Hp) (vs : List V) (Q : VK) (E : XK), RoomG k (A.deeper (envOfC qual (defScope st) s.heap.objs.size f cdv)) → sp vs H Q E →
      ∃ t, PSs (cxOf CX P w K mg base N qual (defScope st) f cdv A outer s H E) (defBody st) t ∧ t { nx := fun _ H' => Q .non H', rt := Q } (start N vs) H) : FnG P w K mg base CX (k + 1) f fd ps sp := by
  obtain ⟨oc, od, dV, kV, doc, pm, an, cdv, ct, osl, rfl, lk, hcd⟩ := F.ex
  refine ⟨ar, ?_⟩
  intro A outer s H args us vs Q E room e0 hb rv hsp
  have kin : K.In s.heap := e0.mod.kin.keeps fun b o z => (e0.bs b o z).1
  have nolim : s.heap.NoLimit := e0.mod.nolimit.keeps fun b o z => (e0.bs b o z).1
  have kinds : ∀ y ∈ ps.zip us, (defScope st).names.lookup y.1 = some .local ∨ ((defScope st).names.lookup y.1 = some .cell ∧ ((cellsFrom (s.heap.objs.size + 1) (defScope st).names []).lookup y.1).isSome = true) := by
    rintro ⟨n, v⟩ hy
    exact (S.par n (List.of_mem_zip hy).1).imp _root_.id fun q => ⟨q, PySem.W.cellsFrom_some _ _ _ (.inl q)⟩
  refine codeAny_call_function room.room.depth (kin _ _ lk) rfl S.co S.gen rfl (PySem.W.codeRec_of kin hcd) (hb _ _ _ _ (wpAny_newFunctionEnv_cells S.kind kinds fun env he s1 inC => ?_))
  subst he
  obtain ⟨t, ht, hq⟩ := body cdv A outer s H vs Q E (room.in_ _) hsp
  refine ⟨nolim.keeps inC.toInCall.keep, codeAny_func (wpAny_mono (ht.run [] s1 (start N vs) H _ (inv_start S room.room.hd e0 (ar _ _ _ _ hsp) rv inC) hq) (fun fl s' z => ?_) fun e s' z => z)⟩
  obtain ⟨u, c, q⟩ := flow_end z
  rcases c with ⟨rfl, rfl⟩ | rfl
  · exact q
  · exact q
theorem okG0A {x qual : Str} {st : Stmt} {f : Addr} {fd : FuncData} {N ps : List Str} {k : Nat} {sp : Sp} (F : FunA K x qual st f fd) (S : FnScope N ps (defScope st)) (ar : ∀ vs H Q E, sp vs H Q E → vs.length = ps.length)
    (body : ∀ (cdv : Value) (A : Around) (outer : List Env) (s : Shared) (H : Hp) (vs : List V) (Q : VK) (E : XK), RoomG k (A.deeper (envOfC qual (defScope st) s.heap.objs.size f cdv)) → sp vs H Q E →
      ∃ t, PSs (cxOf CX0 P w K mg base N qual (defScope st) f cdv A outer s H E).nox (defBody st) t ∧ t { nx := fun _ H' => Q .non H', rt := Q } (start N vs) H) : FnG P w K mg base CX0 (k + 1) f fd ps sp :=
  okGA F S ar fun cdv A outer s H vs Q E hr hsp => (body cdv A outer s H vs Q E hr hsp).imp fun _ z => ⟨z.1.nox, z.2⟩
theorem okG {x qual : Str} {st : Stmt} {f : Addr} {fd : FuncData} {N ps : List Str} {k : Nat} {sp : Sp} (F : Fun K x qual st f fd) (S : FnScope N ps (defScope st)) (ar : ∀ vs H Q E, sp vs H Q E → vs.length = ps.length)
    (body : ∀ (cdv : Value) (A : Around) (outer : List Env) (s : Shared) (H : Hp) (vs : List V) (Q : VK) (E : XK), RoomG k (A.deeper (envOfC qual (defScope st) s.heap.objs.size f cdv)) → sp vs H Q E →
      ∃ t, PSs (cxOf CX P w K mg base N qual (defScope st) f cdv A outer s H E) (defBody st) t ∧ t { nx := fun _ H' => Q .non H', rt := Q } (start N vs) H) : FnG P w K mg base CX (k + 1) f fd ps sp :=
  okGA (toA F) S ar body
theorem okG0 {x qual : Str} {st : Stmt} {f : Addr} {fd : FuncData} {N ps : List Str} {k : Nat} {sp : Sp} (F : Fun K x qual st f fd) (S : FnScope N ps (defScope st)) (ar : ∀ vs H Q E, sp vs H Q E → vs.length = ps.length)
    (body : ∀ (cdv : Value) (A : Around) (outer : List Env) (s : Shared) (H : Hp) (vs : List V) (Q : VK) (E : XK), RoomG k (A.deeper (envOfC qual (defScope st) s.heap.objs.size f cdv)) → sp vs H Q E →
      ∃ t, PSs (cxOf CX0 P w K mg base N qual (defScope st) f cdv A outer s H E).nox (defBody st) t ∧ t { nx := fun _ H' => Q .non H', rt := Q } (start N vs) H) : FnG P w K mg base CX0 (k + 1) f fd ps sp :=
  okG0A (toA F) S ar body
end
section
variable {X : Cx} {CX : CXT} {k : Nat} {f : Addr} {fd : FuncData} {ps : List Str} {sp : Sp}
theorem run_G {pins : List (Addr × Obj)} {σ : L2.St} {H : Hp} {s : Shared} {Q : VK} {E : XK} {us : List Value} {vs : List V} (F : FnG X.prog X.w X.K X.mg X.base CX k f fd ps sp) (hr : RoomG k X.A) (hb : Binds X.K fd ps [])
    (out : ∀ e s', CX X.stack H s E e s' → X.xe e s') (I : Inv X pins σ H s) (r : Vals vs us) (h : sp vs H Q E) : wpAny (model X.prog X.w) X.A (call (.ref f) us) (EP X pins σ Q) X.xe s := by
  have n := (r.length).symm.trans (F.arity _ _ _ _ h)
  have b := hb s us I.kIn (by rw [List.append_nil, n])
  rw [List.append_nil] at b
  refine wpAny_call (codeAny_mono (F.go hr I.env0 b r h) ?_)
  rintro (e | fl) s' q
  · exact out e s' q
  · match fl, q with
    | .ret u, q => exact I.after q
/-- a def and its promise, by its name -/
structure Dn (P : Program) (w : World) (K : PySem.W.Frag) (mg : Str → Option Value) (base : Heap) (k : Nat) (x : Str) (ps : List Str) (sp : Sp) : Prop where
  ex : ∃ f fd, FnG P w K mg base CX0 k f fd ps sp ∧ PySem.W.keepIn K (.ref f) = true ∧ mg x = some (.ref f) ∧ Binds K fd ps []
/-- .. that may raise -/
structure Dx (P : Program) (w : World) (K : PySem.W.Frag) (mg : Str → Option Value) (base : Heap) (k : Nat) (x : Str) (ps : List Str) (sp : Sp) : Prop where
  ex : ∃ f fd, FnG P w K mg base (L2.CX P w) k f fd ps sp ∧ PySem.W.keepIn K (.ref f) = true ∧ mg x = some (.ref f) ∧ Binds K fd ps []
theorem Df.ok {P : Program} {w : World} {K : PySem.W.Frag} {mg : Str → Option Value} {base : Heap} {x : Str} {st : Stmt} (D : Df K mg x st ps)
    (h : ∀ f fd, Fun K x x st f fd → FnG P w K mg base CX0 k f fd ps sp) : Dn P w K mg base k x ps sp := by
  obtain ⟨f, fd, F, m, b⟩ := D.ex
  exact ⟨f, fd, h f fd F, F.kp, m, b⟩
theorem Df.okX {P : Program} {w : World} {K : PySem.W.Frag} {mg : Str → Option Value} {base : Heap} {x : Str} {st : Stmt} (D : Df K mg x st ps)
    (h : ∀ f fd, Fun K x x st f fd → FnG P w K mg base (L2.CX P w) k f fd ps sp) : Dx P w K mg base k x ps sp := by
  obtain ⟨f, fd, F, m, b⟩ := D.ex
  exact ⟨f, fd, h f fd F, F.kp, m, b⟩
variable {x : Str} {p pos : Pos} {e : Expr} {es : List Expr} {t : TA}
theorem pe_cD (D : Dn X.prog X.w X.K X.mg X.base k x ps sp) (hr : RoomG k X.A) (hg : Gl X x) (ha : PA X (e :: es) t) (hdb : (x == ("__debug__" : Str)) = false := by decide)
    (he : starEach (e :: es) X.env = (false, eval e X.env) :: starEach es X.env := by rfl) (hpl : (backTo pos (starEach es X.env)).any (·.1) = false := by rfl) : PE X (.Call (.Name x p) (e :: es) [] pos) (tCall sp [] E0 t) := by
  obtain ⟨f, fd, F, hk, hm, hb⟩ := D.ex
  refine ⟨fun pins s σ H Q I h => wpAny_Call_Name_kw (ld_glob I hg hm (PySem.W.callWith_K (h₀ := X.base) I.ok.mod.kin hk (thn (ha.run pos pins s σ H _ I h) fun us s1 ⟨vs, H1, I1, r, q⟩ => ⟨I1.kIn, ?_⟩) he hpl) hdb)⟩
  have q' : sp vs H1 Q E0 := by
    have z : sp (vs ++ []) H1 Q E0 := q
    rw [List.append_nil] at z
    exact z
  exact run_G F hr hb (fun _ _ z => z.elim) I1 r q'
theorem pe_cD0 (D : Dn X.prog X.w X.K X.mg X.base k x ps sp) (hr : RoomG k X.A) (hg : Gl X x) (hdb : (x == ("__debug__" : Str)) = false := by decide) : PE X (.Call (.Name x p) [] [] pos) (tCall sp [] E0 tNil) := by
  obtain ⟨f, fd, F, hk, hm, hb⟩ := D.ex
  refine ⟨fun pins s σ H Q I h => wpAny_Call_Name_kw (ld_glob I hg hm (PySem.W.callWith_K0 I.kIn hk (run_G (us := []) F hr hb (fun _ _ z => z.elim) I .nil h)) hdb)⟩
/-- a def with defaults: dvs fill up -/
structure Dfd (K : PySem.W.Frag) (mg : Str → Option Value) (x : Str) (st : Stmt) (ps : List Str) (dvs : List V) : Prop where
  ex : ∃ (f : Addr) (fd : FuncData) (ds : List Value), FunA K x x st f fd ∧ PySem.W.keepIn K (.ref f) = true ∧ mg x = some (.ref f) ∧ Binds K fd ps ds ∧ Vals dvs ds
theorem Dfd.of {K : PySem.W.Frag} {mg : Str → Option Value} {x : Str} {st : Stmt} {ps : List Str} {dvs : List V} {f T : Addr} {oc : Value} {od an : Option Addr} {osl : Array (Option Value)} {kV doc pm cdv ct : Value} {o : Obj} {its : List Value} {n m : Nat}
    (l : K.lookup f = some ⟨oc, od, .func (PySem.W.fnOf x x (defArgs st) (defBody st) (defScope st) (.ref T) kV doc pm an cdv ct), osl⟩) (c : PySem.W.codeIn K cdv x = true) (k : PySem.W.keepIn K (.ref f) = true) (mx : mg x = some (.ref f))
    (lT : K.lookup T = some o) (oT : o.data = .seq its.toArray m) (rT : Vals dvs its) (hn : n + dvs.length = ps.length)
    (h : ∀ (us : List Value), us.length = n → ∃ kk, bindArgs (PySem.W.fnOf x x (defArgs st) (defBody st) (defScope st) (.ref T) kV doc pm an cdv ct) ⟨us, []⟩ = seqItems? (.ref T) >>= kk ∧ kk (some its.toArray) = pure (ps.zip (us ++ its))) : Dfd K mg x st ps dvs := by
  refine ⟨f, _, its, ⟨⟨_, _, _, _, _, _, _, _, _, _, rfl, l, c⟩⟩, k, mx, fun s us X hlen => ?_, rT⟩
  have l1 := rT.length
  have l2 : us.length = n := by
    rw [List.length_append] at hlen
    omega
  obtain ⟨kk, e1, e2⟩ := h us l2
  refine BindsTo.of_looks fun M => ?_
  rw [e1]
  exact looks_items X lT oT (.of_pure e2)
/-- .. all parameters given -/
theorem Dfd.ofAll {K : PySem.W.Frag} {mg : Str → Option Value} {x : Str} {st : Stmt} {ps : List Str} {f T : Addr} {oc : Value} {od an : Option Addr} {osl : Array (Option Value)} {kV doc pm cdv ct : Value} {o : Obj} {its : List Value} {n m : Nat}
    (l : K.lookup f = some ⟨oc, od, .func (PySem.W.fnOf x x (defArgs st) (defBody st) (defScope st) (.ref T) kV doc pm an cdv ct), osl⟩) (c : PySem.W.codeIn K cdv x = true) (k : PySem.W.keepIn K (.ref f) = true) (mx : mg x = some (.ref f))
    (lT : K.lookup T = some o) (oT : o.data = .seq its.toArray m) (hn : n = ps.length)
    (h : ∀ (us : List Value), us.length = n → ∃ kk, bindArgs (PySem.W.fnOf x x (defArgs st) (defBody st) (defScope st) (.ref T) kV doc pm an cdv ct) ⟨us, []⟩ = seqItems? (.ref T) >>= kk ∧ kk (some its.toArray) = pure (ps.zip us)) : Dfd K mg x st ps [] := by
  refine ⟨f, _, [], ⟨⟨_, _, _, _, _, _, _, _, _, _, rfl, l, c⟩⟩, k, mx, fun s us X hlen => ?_, .nil⟩
  have l2 : us.length = n := by
    rw [List.append_nil] at hlen
    omega
  obtain ⟨kk, e1, e2⟩ := h us l2
  refine BindsTo.of_looks fun M => ?_
  rw [e1, List.append_nil]
  exact looks_items X lT oT (.of_pure e2)
/-- .. and its promise -/
structure DnD (P : Program) (w : World) (K : PySem.W.Frag) (mg : Str → Option Value) (base : Heap) (k : Nat) (x : Str) (ps : List Str) (dvs : List V) (sp : Sp) : Prop where
  ex : ∃ (f : Addr) (fd : FuncData) (ds : List Value), FnG P w K mg base CX0 k f fd ps sp ∧ PySem.W.keepIn K (.ref f) = true ∧ mg x = some (.ref f) ∧ Binds K fd ps ds ∧ Vals dvs ds
theorem Dfd.ok {P : Program} {w : World} {K : PySem.W.Frag} {mg : Str → Option Value} {base : Heap} {x : Str} {st : Stmt} {dvs : List V} (D : Dfd K mg x st ps dvs)
    (h : ∀ f fd, FunA K x x st f fd → FnG P w K mg base CX0 k f fd ps sp) : DnD P w K mg base k x ps dvs sp := by
  obtain ⟨f, fd, ds, F, kp, m, b, d⟩ := D.ex
  exact ⟨f, fd, ds, h f fd F, kp, m, b, d⟩
theorem run_Gd {pins : List (Addr × Obj)} {σ : L2.St} {H : Hp} {s : Shared} {Q : VK} {E : XK} {us ds : List Value} {vs dvs : List V} (F : FnG X.prog X.w X.K X.mg X.base CX k f fd ps sp) (hr : RoomG k X.A) (hb : Binds X.K fd ps ds) (hd : Vals dvs ds)
    (out : ∀ e s', CX X.stack H s E e s' → X.xe e s') (I : Inv X pins σ H s) (r : Vals vs us) (h : sp (vs ++ dvs) H Q E) : wpAny (model X.prog X.w) X.A (call (.ref f) us) (EP X pins σ Q) X.xe s := by
  have r2 : Vals (vs ++ dvs) (us ++ ds) := r.append hd
  have n : (us ++ ds).length = ps.length := by rw [← r2.length]; exact F.arity _ _ _ _ h
  refine wpAny_call (codeAny_mono (F.go hr I.env0 (hb s us I.kIn n) r2 h) ?_)
  rintro (e | fl) s' q
  · exact out e s' q
  · match fl, q with
    | .ret u, q => exact I.after q
theorem pe_cDd {dvs : List V} (D : DnD X.prog X.w X.K X.mg X.base k x ps dvs sp) (hr : RoomG k X.A) (hg : Gl X x) (ha : PA X (e :: es) t) (hdb : (x == ("__debug__" : Str)) = false := by decide)
    (he : starEach (e :: es) X.env = (false, eval e X.env) :: starEach es X.env := by rfl) (hpl : (backTo pos (starEach es X.env)).any (·.1) = false := by rfl) : PE X (.Call (.Name x p) (e :: es) [] pos) (tCall sp dvs E0 t) := by
  obtain ⟨f, fd, ds, F, hk, hm, hb, hd⟩ := D.ex
  refine ⟨fun pins s σ H Q I h => wpAny_Call_Name_kw (ld_glob I hg hm (PySem.W.callWith_K (h₀ := X.base) I.ok.mod.kin hk (thn (ha.run pos pins s σ H _ I h) fun us s1 ⟨vs, H1, I1, r, q⟩ => ⟨I1.kIn, ?_⟩) he hpl) hdb)⟩
  exact run_Gd F hr hb hd (fun _ _ z => z.elim) I1 r q
/-- a call within a try: what is raised is wished at the slots -/
theorem pe_cX {E : L2.St → XK} (D : Dx X.prog X.w X.K X.mg X.base k x ps sp) (hr : RoomG k X.A) (hg : Gl X x) (hx : ∀ σ, PassesAt (L2.CX X.prog X.w) X σ (E σ)) (ha : PA X (e :: es) t) (hdb : (x == ("__debug__" : Str)) = false := by decide)
    (he : starEach (e :: es) X.env = (false, eval e X.env) :: starEach es X.env := by rfl) (hpl : (backTo pos (starEach es X.env)).any (·.1) = false := by rfl) : PE X (.Call (.Name x p) (e :: es) [] pos) (tCallS sp E t) := by
  obtain ⟨f, fd, F, hk, hm, hb⟩ := D.ex
  exact ⟨fun pins s σ H Q I h => wpAny_Call_Name_kw (ld_glob I hg hm (PySem.W.callWith_K (h₀ := X.base) I.ok.mod.kin hk (thn (ha.run pos pins s σ H _ I h) fun us s1 ⟨vs, H1, I1, r, q⟩ =>
    ⟨I1.kIn, run_G F hr hb (fun e s' z => hx σ pins H1 s1 e s' I1 z) I1 r q⟩) he hpl) hdb)⟩
/-- repr of what is data -/
def rRepr (K : PySem.W.Frag) : List V → Hp → VK → Prop := fun xs H Q => ∃ (x : V) (d : PyData), xs = [x] ∧ Dp K H x d ∧ d.showable = true ∧ d.depth ≤ 60 ∧ d.shown.length ≤ sizeLine ∧ Q (.str d.shown) H
mutual
theorem dp_noDict {K : PySem.W.Frag} {H : Hp} : ∀ (d : PyData) (x : V), Dp K H x d → d.hasDict = false
  | .none, _, _ => rfl
  | .bool _, _, _ => rfl
  | .int _, _, _ => rfl
  | .str _, _, _ => rfl
  | .list ds, _, h => by
    cases h with
    | lst _ ha => simpa [PyData.hasDict] using dp_noDicts ds _ ha
  | .tuple ds, _, h => by
    cases h with
    | tup _ ha => simpa [PyData.hasDict] using dp_noDicts ds _ ha
  | .dict _, _, h => by cases h
theorem dp_noDicts {K : PySem.W.Frag} {H : Hp} : ∀ (ds : List PyData) (xs : List V), DpAll K H xs ds → PyData.hasDictAll ds = false
  | [], _, _ => by simp [PyData.hasDictAll]
  | d :: ds, _, h => by
    cases h with
    | cons a b => simp [PyData.hasDictAll, dp_noDict d _ a, dp_noDicts ds _ b]
end
theorem reprK {K : PySem.W.Frag} (hr : RoomG k X.A) (eK : X.K = K := by rfl) : CallR X (.builtin "repr") (rRepr K) := by
  cases eK
  intro pins s σ H xs us Q I r h
  obtain ⟨x, d, rfl, hd, hs, hdep, hz, q⟩ := h
  obtain ⟨u, rfl, rx⟩ := vals1 r
  obtain ⟨as, rd⟩ := Dp.reads I d x u hd rx
  have hu := hr.units
  have nd := dp_noDict d x hd
  cases hd with
  | non => cases rx; exact PySem.P.repr_of_none ⟨.str _, H, I.tok _, ⟨_, rfl⟩, q⟩
  | bl b => cases rx; exact PySem.P.repr_of_bool ⟨.str _, H, I.tok _, ⟨_, rfl⟩, q⟩
  | int i => obtain ⟨t, rfl⟩ := rx; exact PySem.P.repr_of_int (of_decide_eq_true (by simpa [PyData.showable] using hs)) ⟨.str _, H, I.tok _, ⟨_, rfl⟩, q⟩
  | str z => obtain ⟨t, rfl⟩ := rx; exact PySem.P.repr_of_str ⟨.str _, H, I.tok _, ⟨_, rfl⟩, q⟩ hz
  | lst hq ha =>
    cases rx
    refine repr_of_reads' rd hs (PyData.noDict_hsm nd) hr.idle (by omega) (fun _ _ z => z) (fun h' u tk hk => ⟨.str _, H, I.kept hk, ⟨_, rfl⟩, q⟩) hz
  | tup hq ha =>
    cases rx
    refine repr_of_reads' rd hs (PyData.noDict_hsm nd) hr.idle (by omega) (fun _ _ z => z) (fun h' u tk hk => ⟨.str _, H, I.kept hk, ⟨_, rfl⟩, q⟩) hz
end
end Toy
namespace Toy
open PySem PySem.Spec PyProof.Rows L2
/-- what was tracked stays, but for one object -/
def But (p : Addr) (H H' : Hp) : Prop := ∀ b o, b ≠ p → H b = some o → H' b = some o
theorem But.refl {p : Addr} {H : Hp} : But p H H := fun _ _ _ h => h
theorem But.trans {p : Addr} {H H1 H2 : Hp} (a : But p H H1) (b : But p H1 H2) : But p H H2 := fun c o n h => b c o n (a c o n h)
theorem But.free {p : Addr} {H H' : Hp} (e : But p H H') {l : Addr} (n : l ≠ p) (h : H' l = Option.none) : H l = Option.none := by
  cases q : H l with
  | none => rfl
  | some o =>
    rw [e l o n q] at h
    cases h
theorem same_but {p : Addr} {H H' : Hp} (a : Same H H') : But p H H' := fun c o _ h => a c o h
theorem But.upd {p : Addr} {H : Hp} {o : HO} : But p H (upd H p o) := fun b u n h => by rw [upd_ne n]; exact h
theorem same_new {H : Hp} {p : Addr} (h : H p = none) (o : HO) : Same H (upd H p o) := fun b u q => by rw [upd_ne (ne_of_none q h)]; exact q
theorem but_tup {p : Addr} {K : PySem.W.Frag} {H H' : Hp} {a : Addr} {xs ys : List V} (e : But p H H') (hp : H p = some (.lst ys)) (h : SqT K H a xs) : SqT K H' a xs := by
  rcases h with (h | ⟨o, h⟩) | h
  · exact .inl (.inl (e _ _ (ne_of h hp (by intro z; cases z)) h))
  · exact .inl (.inr ⟨o, e _ _ (ne_of h hp (by intro z; cases z)) h⟩)
  · exact .inr h
theorem same_tup {K : PySem.W.Frag} {H H' : Hp} {a : Addr} {xs : List V} (e : Same H H') (h : SqT K H a xs) : SqT K H' a xs := by
  rcases h with (h | ⟨o, h⟩) | h
  · exact .inl (.inl (e _ _ h))
  · exact .inl (.inr ⟨o, e _ _ h⟩)
  · exact .inr h
/-- the script stays -/
theorem but_seq {p : Addr} {K : PySem.W.Frag} {H H' : Hp} {a : Addr} {xs : List V} (e : But p H H') (n : a ≠ p) (h : SqL K H a xs) : SqL K H' a xs := by
  rcases h with (h | ⟨o, h⟩) | h
  · exact .inl (.inl (e _ _ n h))
  · exact .inl (.inr ⟨o, e _ _ n h⟩)
  · exact .inr h
theorem small {n : Nat} (h : n ≤ 1000) : n ≤ sizeLine := Nat.le_of_lt (small1000 h)
theorem log_lt {i : Int} {n : Nat} (h0 : 0 < n) (h : i.natAbs < 2 ^ n) : i.natAbs.log2 < n := PySem.Flt.log2_lt_of h0 h
theorem divp_small {i j : Int} (hj : 0 < j) (h : j < 2 ^ 8000) : CDivP i j := by
  refine ⟨hj, PyProof.noPylong_of_log2 ?_⟩
  exact Nat.lt_trans (log_lt (n := 8000) (by decide) (by omega)) (by decide)
end Toy
namespace Toy
open PySem PySem.Spec PyProof.Rows L2
theorem ifT {c : Bool} {A B : Prop} (hc : c = true) (h : A) : if c = true then A else B := by rw [if_pos hc]; exact h
theorem ifF {c : Bool} {A B : Prop} (hc : c = false) (h : B) : if c = true then A else B := by rw [hc]; exact iteF h
theorem pj {j : Int} (h : decide ((0 : Int) < j) = true := by decide) : 0 < j := of_decide_eq_true h
theorem sz {xs : List V} (h : Nat.ble xs.length 1000 = true := by rfl) : xs.length ≤ sizeLine := small (Nat.le_of_ble_eq_true h)
theorem but_same {p : Addr} {H H1 H2 : Hp} (n : H p = none) (a : Same H H1) (b : But p H1 H2) : Same H H2 := fun c o h => b c o (ne_of_none h n) (a c o h)
/-- two ways of a value meet -/
theorem ifE {ta tb : TE} {σ : L2.St} {H : Hp} {Q : VK} {b : Bool} (R : V → Hp → Prop) (h : ∀ v H', R v H' → Q v H') (h1 : b = true → ∀ Q' : VK, (∀ v H', R v H' → Q' v H') → ta σ H Q') (h2 : b = false → ∀ Q' : VK, (∀ v H', R v H' → Q' v H') → tb σ H Q') :
    if b = true then ta σ H Q else tb σ H Q := by
  cases b with
  | true => exact iteT (h1 rfl Q h)
  | false => exact iteF (h2 rfl Q h)
theorem mulx {i j : Int} (a b : Nat) (ha : i.natAbs < 2 ^ a) (hb : j.natAbs < 2 ^ b) (h : a + b ≤ 134217728 := by decide) : CMulX i j := mulx_ok ha hb h
end Toy
namespace Toy
open PySem PySem.Spec PyProof.Rows L2
theorem qi {Q : VK} {H : Hp} {a b : Int} (q : Q (.int a) H) (e : a = b) : Q (.int b) H := e ▸ q
end Toy
namespace Toy
open PySem PySem.Spec PyProof.Rows L2
/-- the written part by its letter -/
theorem kk {α : Sort _} {P : α → Prop} {F : PySem.W.Frag → α} {K0 K : PySem.W.Frag} (h : P (F K0)) (e : K0 = K := by rfl) : P (F K) := e ▸ h
def rLen (K : PySem.W.Frag) : List V → Hp → VK → Prop := fun xs H Q => ∃ p ys, xs = [.ref p] ∧ (SqL K H p ys ∨ SqT K H p ys) ∧ Q (.int ys.length) H
theorem lenK {X : Cx} {K : PySem.W.Frag} (e : X.K = K := by rfl) : CallR X (.builtin "len") (rLen K) := by cases e; exact call_len_seq
def rLstOf (K : PySem.W.Frag) : List V → Hp → VK → Prop := fun xs H Q => ∃ p ys, xs = [.ref p] ∧ (SqL K H p ys ∨ SqT K H p ys) ∧ ∀ l, H l = none → Q (.ref l) (upd H l (.lst ys))
theorem lstOfK {X : Cx} {K : PySem.W.Frag} (e : X.K = K := by rfl) : CallR X (.type "list") (rLstOf K) := by cases e; exact call_list_of
def rTupOf (K : PySem.W.Frag) : List V → Hp → VK → Prop := fun xs H Q => ∃ p ys, xs = [.ref p] ∧ ((SqL K H p ys ∧ ∀ l, H l = none → Q (.ref l) (upd H l (.tup ys))) ∨ (SqT K H p ys ∧ Q (.ref p) H))
theorem tupOfK {X : Cx} {K : PySem.W.Frag} (e : X.K = K := by rfl) : CallR X (.type "tuple") (rTupOf K) := by cases e; exact call_tuple_of
theorem dec_ne {α : Type} [DecidableEq α] {a b : α} (h : a = b) : (!decide (a = b)) = false := by rw [decide_eq_true h] <;> rfl
end Toy
namespace Toy
open PySem PySem.Spec PyProof.Rows L2
/-- a tuple of the written part; a tuple that never changes -/
def KTup (K : PySem.W.Frag) (a : Addr) (xs : List V) : Prop := ∃ (o : Obj) (its : Array Value) (n : Nat), K.lookup a = some o ∧ o.cls = .type "tuple" ∧ o.data = .seq its n ∧ its.size ≤ sizeLine ∧ Vals xs its.toList
def TupAt (K : PySem.W.Frag) (H : Hp) (a : Addr) (xs : List V) : Prop := H a = some (.tup xs) ∨ KTup K a xs
theorem TupAt.sq {K : PySem.W.Frag} {H : Hp} {a : Addr} {xs : List V} (h : TupAt K H a xs) : SqT K H a xs := by
  rcases h with h | h
  · exact SqT.of h
  · exact .inr h
theorem TupAt.ty {K : PySem.W.Frag} {H : Hp} {a : Addr} {xs : List V} (h : TupAt K H a xs) : TyX K H (.ref a) (.type "tuple") := by
  rcases h with h | ⟨o, its, n, h1, h2, _⟩
  · exact .base (.tup h)
  · exact .kTuple h1 h2
theorem TupAt.same {K : PySem.W.Frag} {H H' : Hp} {a : Addr} {xs : List V} (e : Same H H') (h : TupAt K H a xs) : TupAt K H' a xs := h.imp (e _ _) id
theorem TupAt.but {K : PySem.W.Frag} {H H' : Hp} {a p : Addr} {xs ys : List V} (e : But p H H') (hp : H p = some (.lst ys)) (h : TupAt K H a xs) : TupAt K H' a xs := h.imp (fun h => e _ _ (ne_of h hp (by intro z; cases z)) h) id
end Toy
namespace Toy
open PySem PySem.Spec PyProof.Rows L2
theorem ints_dp {K : PySem.W.Frag} {H : Hp} : ∀ ns : List Int, DpAll K H (ns.map V.int) (ns.map PyData.int)
  | [] => .nil
  | n :: r => .cons (.int n) (ints_dp r)
theorem ints_sh (ns : List Int) : SeqAt.shaped (.list (ns.map PyData.int)) = true := PySem.W.ke_shaped_ints ns
theorem ints_refl (ns : List Int) : PyData.eqv (.list (ns.map PyData.int)) (.list (ns.map PyData.int)) = true := SeqAt.eqv_refl _ (SeqAt.canLay_of_shaped (ints_sh ns))
theorem lst_dp {K : PySem.W.Frag} {H : Hp} {a : Addr} {ns : List Int} (h : SqL K H a (ns.map V.int)) : Dp K H (.ref a) (.list (ns.map PyData.int)) := .lst h (ints_dp ns)
theorem tupI_dp {K : PySem.W.Frag} {H : Hp} {a : Addr} {ns : List Int} (h : SqT K H a (ns.map V.int)) : Dp K H (.ref a) (.tuple (ns.map PyData.int)) := .tup h (ints_dp ns)
theorem tupI_sh (ns : List Int) : SeqAt.shaped (.tuple (ns.map PyData.int)) = true := ints_sh ns
theorem tupI_refl (ns : List Int) : PyData.eqv (.tuple (ns.map PyData.int)) (.tuple (ns.map PyData.int)) = true := SeqAt.eqv_refl _ (SeqAt.canLay_of_shaped (tupI_sh ns))
theorem cut_map (us : List Int) (lo hi : Option Int) : ∃ ws : List Int, cutV (us.map V.int) lo hi = ws.map V.int ∧ ws.length ≤ us.length ∧ ∀ x ∈ ws, x ∈ us := by
  refine ⟨(us.drop (HT.sIx (us.map V.int).length 0 lo)).take (HT.sIx (us.map V.int).length (us.map V.int).length hi - HT.sIx (us.map V.int).length 0 lo), ?_, ?_, fun x hx => List.mem_of_mem_drop (List.mem_of_mem_take hx)⟩
  · unfold cutV; rw [List.map_take, List.map_drop]
  · rw [List.length_take, List.length_drop]; omega
theorem at_map {us : List Int} {i : Nat} {y : V} (h : (us.map V.int)[i]? = some y) : ∃ x : Int, y = .int x ∧ us[i]? = some x := by
  rw [List.getElem?_map] at h
  cases e : us[i]? with
  | none => rw [e] at h; cases h
  | some x => rw [e] at h; exact ⟨x, (Option.some.inj h).symm, rfl⟩
end Toy
namespace Toy
open PySem PySem.Spec PyProof.Rows L2
/-- the heap in which the script alone stands, unless the text's own part holds it -/
def scriptH (K : PySem.W.Frag) (a : Addr) (o : Obj) (ns : List Int) : Hp := fun c => if (K.lookup a).isNone = true ∧ c = a then some (.frz o (.lst (ns.map V.int))) else none
theorem scriptH_none {K : PySem.W.Frag} {a b : Addr} {o : Obj} {ns : List Int} : scriptH K a o ns b = none ∨ (b = a ∧ K.lookup a = none ∧ scriptH K a o ns b = some (.frz o (.lst (ns.map V.int)))) := by
  unfold scriptH
  by_cases c : (K.lookup a).isNone = true ∧ b = a
  · exact .inr ⟨c.2, Option.isNone_iff_eq_none.mp c.1, if_pos c⟩
  · exact .inl (if_neg c)
theorem law_G {P : Program} {w : World} {K : PySem.W.Frag} {mg mb : Str → Option Value} {k : Nat} {fa a : Addr} {fd : FuncData} {x : Str} {sp : Sp} {s : Shared} {vs : List Value} {ns : List Int}
    (KX : K.In s.heap) (hns : s.heap.Ns mainGlobals mg) (hb : s.heap.Ns builtinsNs mb) (hbb : ∀ x : Str, x ≠ "__name__" → mb x = bootBuiltins x) (hlim : s.heap.NoLimit) (hg : s.gens = #[])
    (ha : s.heap.get? a = some { cls := .type "list", data := .seq vs.toArray }) (hi : IntsAre vs ns) (hl : ns.length ≤ sizeLine) (hr : Room k PySem.callerA)
    (F : ∀ base : Heap, K.In base → base.Ns mainGlobals mg → FnG P w K mg base CX0 k fa fd [x] sp) (hbind : ∀ (s : Shared) (u : Value), BindsTo s fd ⟨[u], []⟩ [(x, u)])
    (hsp : ∀ H : Hp, SqL K H a (ns.map V.int) → sp [.ref a] H (fun v _ => v = .bl true) fun _ _ _ => False) :
    codeAny (model P w) PySem.callerA (.call (.ref fa) ⟨[.ref a], []⟩) (fun r s' => r = .ok (.ret (.bool true)) ∧ OldK s.heap s'.heap ∧ s'.os = s.os ∧ AllBare s'.gens) s := by
  let H : Hp := scriptH K a { cls := .type "list", data := .seq vs.toArray } ns
  have hH : ∀ b, H b = none ∨ (b = a ∧ K.lookup a = none ∧ H b = some (.frz { cls := .type "list", data := .seq vs.toArray } (.lst (ns.map V.int)))) := fun b => scriptH_none
  have rv := vals_ints hi
  have hok : HOk P w H s.heap := by
    intro b u e
    rcases hH b with z | ⟨rfl, _, z⟩
    · rw [z] at e; cases e
    · rw [z] at e
      cases e
      exact ⟨ha, by rw [List.length_map]; exact hl, vs, _, rv, ha⟩
  have hS : SqL K H a (ns.map V.int) := by
    cases q : K.lookup a with
    | none => exact .inl (.inr ⟨_, show scriptH K a _ ns a = _ from if_pos ⟨by rw [q] <;> rfl, rfl⟩⟩)
    | some o =>
      have e := KX a o q
      rw [ha] at e
      cases e
      exact .inr ⟨_, vs.toArray, _, q, rfl, rfl, rfl, by rw [List.size_toArray, hi.length]; exact hl, by simpa using rv⟩
  -- what is no list is not the script
  have notA : ∀ {b : Addr} {o : Obj} {es : Array DictEntry} {ep : Nat}, s.heap.get? b = some o → o.data = .dict es ep → H b = none := by
    intro b o es ep e d
    rcases hH b with z | ⟨rfl, _, _⟩
    · exact z
    · rw [ha] at e
      cases e
      cases (show Data.seq vs.toArray _ = Data.dict es ep from d)
  have ns' : ∀ {b : Addr} {m : Str → Option Value}, s.heap.Ns b m → (hidT s.heap H).Ns b m := by
    rintro b m ⟨o, es, ep, e, d, r⟩
    exact ⟨o, es, ep, hidT_get e (notA e d), d, r⟩
  have kin' : K.In (hidT s.heap H) := by
    intro b o e
    refine hidT_get (KX b o e) ?_
    rcases hH b with z | ⟨rfl, q, _⟩
    · exact z
    · rw [q] at e; cases e
  have md : Mod K mg (hidT s.heap H) := ⟨kin', ns' hns, ⟨mb, ns' hb, hbb⟩, hlim.imp fun _ z => ⟨ns' z.1, z.2⟩⟩
  have e0 : Env0 P w K mg (hidT s.heap H) PySem.callerA [] s H := ⟨rfl, md, fun _ _ z => of_hidT z, Nat.le_of_eq (hidT_size _ _), trivial, (by intro b z; cases z), hok, .of_eq hg⟩
  refine codeAny_mono ((F _ kin' (ns' hns)).go (us := [.ref a]) (vs := [.ref a]) ⟨hr, rfl⟩ e0 (hbind s (.ref a)) (.cons rfl .nil) (hsp H hS)) ?_
  rintro (e | fl) s' q
  · exact q.elim
  match fl, q with
  | .ret u, ⟨v, H', os, bare, un, ok', r', q⟩ =>
    have q' : v = .bl true := q
    subst q'
    obtain rfl : u = Value.bool true := r'
    refine ⟨rfl, OldK.of_keep fun b o e => ?_, os, bare⟩
    rcases hH b with z | ⟨_, _, z⟩
    · exact un.keep b o e z (by intro y; cases y) (by intro y; cases y)
    · have z1 := (hok b _ z).1
      have z2 := (ok' b _ (un.frzs b _ _ z)).1
      rw [e] at z1
      cases z1
      exact z2
theorem walk_G {l : PySem.W.OpenLaw} {n k : Nat} {q : Program} {loose : List Str} {XP : (Str → Option Value) → Heap → Prop} {YP : World → Heap → Prop} {d : DefRec} {K : Params → PySem.W.Frag} {sp : PySem.W.Frag → Sp} {x : Str}
    (hn : l.most = some n) (hn2 : n ≤ sizeLine) (hdf : d.params.defaults = []) (hr : Room k PySem.callerA) (hY : ∀ (w : World) (h : Heap), YP w h → (K w.params).In h)
    (F : ∀ (w : World) (mg : Str → Option Value) (fa : Addr) (h : Heap), (K w.params).In h → h.Ns mainGlobals mg → mg d.name = some (.ref fa) →
      ∃ fd : FuncData, (∀ (s : Shared) (u : Value), BindsTo s fd ⟨[u], []⟩ [(x, u)]) ∧ ∀ base : Heap, (K w.params).In base → base.Ns mainGlobals mg → FnG l.prog w (K w.params) mg base CX0 k fa fd [x] (sp (K w.params)))
    (hsp : ∀ (K : PySem.W.Frag) (H : Hp) (a : Addr) (ns : List Int), ns.length ≤ n → SqL K H a (ns.map V.int) → sp K [.ref a] H (fun v _ => v = .bl true) fun _ _ _ => False) :
    PySem.W.WalkO q loose XP YP l.row.toRowW d [] (fun f vs => PySem.call f vs) :=
  Att.attach_call hn hdf fun w s0 s1 mg mb fa o pm cd doc a vs ns G Y ho hd hcd hmg hobj hints hlen hg => by
    have KX := hY w _ Y
    obtain ⟨fd, hbd, hF⟩ := F w mg fa _ KX G.T.g hmg
    exact law_G KX G.T.g G.T.b G.T.builtins G.T.nolimit hg hobj hints (Nat.le_trans hlen hn2) hr hF hbd fun H hS => hsp _ H a ns hlen hS
end Toy
namespace Toy
open PySem PySem.Spec PyProof.Rows L2
/-! ### how long a shown datum is -/
mutual
def cst : PyData → Nat
  | .none => 5
  | .bool _ => 5
  | .int _ => 1921
  | .str x => (reprText x).length
  | .list xs => csts xs + 4
  | .tuple xs => csts xs + 4
  | .dict _ => 0
def csts : List PyData → Nat
  | [] => 0
  | x :: xs => cst x + 4 + csts xs
end
theorem tupT_len (ts : List Str) : (tupleText ts).length ≤ piled ts + 4 := by
  unfold tupleText
  rw [strLen_append, strLen_append]
  have e1 : ((("(" : String) : Str)).length = 1 := rfl
  have e3 : (((if ts.length == 1 then ",)" else ")" : String) : Str)).length ≤ 2 := by split <;> decide +kernel
  by_cases h : ts = []
  · subst h; decide +kernel
  · have := join_length_add ts h; omega
theorem txtFrom_len : ∀ (ts : List Str) (k : Nat) (acc : Str), (textFrom k acc ts).length ≤ acc.length + piled ts
  | [], k, acc => Nat.le_add_right _ _
  | t :: r, k, acc => by
    have h := txtFrom_len r (k + 1) (acc ++ (if k > 0 then ", " else "" : String) ++ t)
    have e : (acc ++ (if k > 0 then ", " else "" : String) ++ t).length = acc.length + (if k > 0 then 2 else 0) + t.length := by
      rw [strLen_append, strLen_append]
      split <;> rfl
    rw [e] at h
    rw [piled_cons]
    have h2 : (textFrom k acc (t :: r)).length = (textFrom (k + 1) (acc ++ (if k > 0 then ", " else "" : String) ++ t) r).length := rfl
    rw [h2]
    have e2 : (if k > 0 then 2 else 0) ≤ 2 := by split <;> omega
    omega
theorem lstT_len (ts : List Str) : (listText ts).length ≤ piled ts + 4 := by
  unfold listText
  rw [strLen_append]
  have h := txtFrom_len ts 0 "["
  have e1 : ((("[" : String) : Str)).length = 1 := rfl
  have e2 : ((("]" : String) : Str)).length = 1 := rfl
  omega
mutual
theorem shown_le : ∀ d : PyData, d.showable = true → d.hasDict = false → d.shown.length ≤ cst d
  | .none, _, _ => by show (("None" : String) : Str).length ≤ 5; decide +kernel
  | .bool b, _, _ => by cases b <;> (show _ ≤ 5; decide +kernel)
  | .int i, h, _ => PyProof.Rows.int_text_len_1921 (of_decide_eq_true (by simpa [PyData.showable] using h))
  | .str x, _, _ => Nat.le_refl _
  | .list ds, h, g => by
    have h1 := showns_le ds (by simpa [PyData.showable] using h) (by simpa [PyData.hasDict] using g)
    have h2 := lstT_len (PyData.shownAll ds)
    show (listText (PyData.shownAll ds)).length ≤ csts ds + 4
    omega
  | .tuple ds, h, g => by
    have h1 := showns_le ds (by simpa [PyData.showable] using h) (by simpa [PyData.hasDict] using g)
    have h2 := tupT_len (PyData.shownAll ds)
    show (tupleText (PyData.shownAll ds)).length ≤ csts ds + 4
    omega
  | .dict _, _, g => by simp [PyData.hasDict] at g
theorem showns_le : ∀ ds : List PyData, PyData.showableAll ds = true → PyData.hasDictAll ds = false → piled (PyData.shownAll ds) ≤ csts ds
  | [], _, _ => Nat.le_refl _
  | d :: ds, h, g => by
    have h1 := shown_le d (by simp [PyData.showableAll] at h; exact h.1) (by simp [PyData.hasDictAll] at g; exact g.1)
    have h2 := showns_le ds (by simp [PyData.showableAll] at h; exact h.2) (by simp [PyData.hasDictAll] at g; exact g.2)
    show piled (d.shown :: PyData.shownAll ds) ≤ _
    rw [piled_cons]
    show _ ≤ cst d + 4 + csts ds
    omega
end
theorem shown_sz {d : PyData} (h : d.showable = true) (g : d.hasDict = false) (c : cst d ≤ 10000000) : d.shown.length ≤ sizeLine :=
  Nat.le_trans (shown_le d h g) (Nat.le_trans c (by decide))
end Toy
namespace Toy
open PySem PySem.Spec PyProof.Rows L2
/-- a list of ints grown by a part of another one -/
theorem ext_cut {L z : Addr} {ws es : List Int} {lo hi : Option Int} {H : Hp} {R : VK} (hL : H L = some (.lst (ws.map V.int))) (hz : H z = some (.lst (cutV (es.map V.int) lo hi))) (hs : ws.length + es.length ≤ 1000)
    (q : ∀ us : List Int, us.length ≤ es.length → (∀ x ∈ us, x ∈ es) → R .non (upd H L (.lst ((ws ++ us).map V.int)))) : rExtend (.ref L) [.ref z] H R := by
  obtain ⟨us, e, h1, h2⟩ := cut_map es lo hi
  rw [e] at hz
  refine ⟨L, z, _, _, rfl, rfl, hL, hz, small (by rw [List.length_map, List.length_map]; omega), ?_⟩
  have := q us h1 h2
  rw [List.map_append] at this
  exact this
theorem rep_len {n : Nat} : ((List.replicate n true).map V.bl).length = n := by rw [List.length_map, List.length_replicate]
theorem rep_snoc {n : Nat} : (List.replicate n true).map V.bl ++ [V.bl true] = (List.replicate (n + 1) true).map V.bl := by rw [List.replicate_succ', List.map_append] <;> rfl
theorem rep_all (n : Nat) : (List.replicate n true).all id = true := by rw [List.all_eq_true]; intro x hx; rw [List.mem_replicate] at hx; exact hx.2
theorem ixn {n j : Nat} (hj : j < n) : ixN n (j : Int) = some j := by
  unfold ixN
  rw [if_pos (by omega), if_pos (by omega)]
  exact congrArg some (Int.toNat_natCast j)
theorem dec_self (a : V) : decide (a = a) = true := decide_eq_true rfl
end Toy
namespace Toy
open PySem PySem.Spec PyProof.Rows L2
/-- a comprehension within a comprehension -/
theorem relabel_kept {env : Env} : ∀ {names : List (Str × NameKind)} {x : Str}, names.lookup x = some .cell ∨ names.lookup x = some .free →
    (names.map fun (n, k) => if (k == NameKind.free && env.scope.kind == .function && env.kindOf n == some .cell) then (n, NameKind.cell) else (n, k)).lookup x = some .cell ∨
    (names.map fun (n, k) => if (k == NameKind.free && env.scope.kind == .function && env.kindOf n == some .cell) then (n, NameKind.cell) else (n, k)).lookup x = some .free
  | [], _, h => by simp at h
  | (n, k) :: r, x, h => by
    have ih := @relabel_kept env r x
    show List.lookup x ((if (k == NameKind.free && env.scope.kind == .function && env.kindOf n == some .cell) = true then (n, NameKind.cell) else (n, k)) :: _) = _ ∨ List.lookup x ((if (k == NameKind.free && env.scope.kind == .function && env.kindOf n == some .cell) = true then (n, NameKind.cell) else (n, k)) :: _) = _
    cases hx : x == n with
    | true =>
      simp only [List.lookup_cons, hx] at h
      by_cases hc : (k == NameKind.free && env.scope.kind == .function && env.kindOf n == some .cell) = true
      · rw [if_pos hc]; exact .inl (by simp [List.lookup_cons, hx])
      · rw [if_neg hc]; simp only [List.lookup_cons, hx]; exact h
    | false =>
      simp only [List.lookup_cons, hx] at h
      by_cases hc : (k == NameKind.free && env.scope.kind == .function && env.kindOf n == some .cell) = true
      · rw [if_pos hc]; simp only [List.lookup_cons, hx]; exact ih h
      · rw [if_neg hc]; simp only [List.lookup_cons, hx]; exact ih h
theorem blkOk_nest {X : Cx} {s : Shared} {H : Hp} {scope1 scope : Scope} {cl : List (Str × Addr)} {C : Addr} {env : Env} {fp : List Addr} {own : List (Str × Nat)} {N : List Str} (hN : X.N = N) (h : blkC N scope1 scope own = true) :
    BlkOk (X.blk s H scope1 (compEnvC scope1 cl C env) fp).N (X.blk s H scope1 (compEnvC scope1 cl C env) fp).env.scope scope own := by
  subst hN
  obtain ⟨h1, h2, h3, h4, h5⟩ := blkOk_by h
  exact ⟨h1, h2, h3, fun y hy e => relabel_kept (h4 y hy e), h5⟩
end Toy
namespace Toy
open PySem PySem.Spec PyProof.Rows L2
/-! ### own classes -/
/-- where a name's class stands -/
def cAt (mg : Str → Option Value) (x : Str) : Addr := match mg x with | some (.ref C) => C | _ => 0
theorem cAt_eq {mg : Str → Option Value} {x : Str} {C : Addr} (h : mg x = some (.ref C)) : cAt mg x = C := by unfold cAt; rw [h]
structure ClsF (K : PySem.W.Frag) (mg : Str → Option Value) (x : Str) (fs : List Str) : Prop where
  mg_ : mg x = some (.ref (cAt mg x))
  cl : Cls K (cAt mg x)
  no : ∀ f ∈ fs, NoAttr K (cAt mg x) f
theorem ClsF.of {K : PySem.W.Frag} {mg : Str → Option Value} {x : Str} {C : Addr} {fs : List Str} (m : mg x = some (.ref C)) (c : Cls K C) (n : ∀ f ∈ fs, NoAttr K C f) : ClsF K mg x fs := by
  have e := cAt_eq m
  exact ⟨by rw [e]; exact m, by rw [e]; exact c, by rw [e]; exact n⟩
/-- a method, by its class -/
structure DfM (K : PySem.W.Frag) (C : Addr) (m q : Str) (st : Stmt) (ps : List Str) : Prop where
  ex : ∃ f fd, Fun K m q st f fd ∧ Meth K C m f ∧ Binds K fd ps []
theorem DfM.of {K : PySem.W.Frag} {mg : Str → Option Value} {x m q : Str} {st : Stmt} {ps : List Str} {f C : Addr} {oc : Value} {od an : Option Addr} {osl : Array (Option Value)} {kV doc pm cdv ct : Value} (hC : mg x = some (.ref C))
    (a : PySem.W.findIn K (.ref C) m = some (some (.ref f))) (i : PySem.W.isFn K (.ref f) = true)
    (l : K.lookup f = some ⟨oc, od, .func (PySem.W.fnOf m q (defArgs st) (defBody st) (defScope st) .none kV doc pm an cdv ct), osl⟩) (c : PySem.W.codeIn K cdv q = true) (k : PySem.W.keepIn K (.ref f) = true)
    (h : ∀ (kV doc pm : Value) (an : Option Addr) (cdv ct : Value) (us : List Value), us.length = ps.length → bindArgs (PySem.W.fnOf m q (defArgs st) (defBody st) (defScope st) .none kV doc pm an cdv ct) ⟨us, []⟩ = pure (ps.zip us)) : DfM K (cAt mg x) m q st ps := by
  rw [cAt_eq hC]
  exact ⟨_, _, fun_mk l c k, ⟨a, i, k⟩, (fun_mk l c k).binds h⟩
structure DnM (P : Program) (w : World) (K : PySem.W.Frag) (mg : Str → Option Value) (base : Heap) (C : Addr) (k : Nat) (m : Str) (ps : List Str) (sp : Sp) : Prop where
  ex : ∃ f fd, FnG P w K mg base CX0 k f fd ps sp ∧ Meth K C m f ∧ Binds K fd ps []
theorem DfM.ok {P : Program} {w : World} {K : PySem.W.Frag} {mg : Str → Option Value} {base : Heap} {C : Addr} {m q : Str} {st : Stmt} {ps : List Str} {k : Nat} {sp : Sp} (D : DfM K C m q st ps)
    (h : ∀ f fd, Fun K m q st f fd → FnG P w K mg base CX0 k f fd ps sp) : DnM P w K mg base C k m ps sp := by
  obtain ⟨f, fd, F, mt, b⟩ := D.ex
  exact ⟨f, fd, h f fd F, mt, b⟩
/-- the maker of a class -/
structure DfI (K : PySem.W.Frag) (C : Addr) (q : Str) (st : Stmt) (ps : List Str) : Prop where
  ex : ∃ f fd, Fun K "__init__" q st f fd ∧ Mk K C f ∧ Binds K fd ps []
theorem DfI.of {K : PySem.W.Frag} {mg : Str → Option Value} {x q : Str} {st : Stmt} {ps : List Str} {f C : Addr} {oc : Value} {od an : Option Addr} {osl : Array (Option Value)} {kV doc pm cdv ct : Value} (hC : mg x = some (.ref C))
    (a : PySem.W.findIn K (.ref C) "__init__" = some (some (.ref f))) (i : PySem.W.isFn K (.ref f) = true)
    (l : K.lookup f = some ⟨oc, od, .func (PySem.W.fnOf "__init__" q (defArgs st) (defBody st) (defScope st) .none kV doc pm an cdv ct), osl⟩) (c : PySem.W.codeIn K cdv q = true) (k : PySem.W.keepIn K (.ref f) = true)
    (mk : PySem.W.makesIn K C = true) (kc : PySem.W.keepIn K (.ref C) = true)
    (h : ∀ (kV doc pm : Value) (an : Option Addr) (cdv ct : Value) (us : List Value), us.length = ps.length → bindArgs (PySem.W.fnOf "__init__" q (defArgs st) (defBody st) (defScope st) .none kV doc pm an cdv ct) ⟨us, []⟩ = pure (ps.zip us)) : DfI K (cAt mg x) q st ps := by
  rw [cAt_eq hC]
  exact ⟨_, _, fun_mk l c k, ⟨mk, a, i, kc⟩, (fun_mk l c k).binds h⟩
structure DnI (P : Program) (w : World) (K : PySem.W.Frag) (mg : Str → Option Value) (base : Heap) (C : Addr) (k : Nat) (ps : List Str) (sp : Sp) : Prop where
  ex : ∃ f fd, FnG P w K mg base CX0 k f fd ps sp ∧ Mk K C f ∧ Binds K fd ps []
theorem DfI.ok {P : Program} {w : World} {K : PySem.W.Frag} {mg : Str → Option Value} {base : Heap} {C : Addr} {q : Str} {st : Stmt} {ps : List Str} {k : Nat} {sp : Sp} (D : DfI K C q st ps)
    (h : ∀ f fd, Fun K "__init__" q st f fd → FnG P w K mg base CX0 k f fd ps sp) : DnI P w K mg base C k ps sp := by
  obtain ⟨f, fd, F, mt, b⟩ := D.ex
  exact ⟨f, fd, h f fd F, mt, b⟩
theorem RoomG.make {k : Nat} {A : Around} (r : RoomG (k + 1) A) (C : Addr) (us : List Value) (kw : List (Str × Value)) : RoomG k (A.under (.builtin "type.__call__" ⟨.ref C :: us, kw⟩)) :=
  ⟨r.room.make C us kw, r.idle⟩
section
variable {X : Cx} {k : Nat} {C : Addr} {ps : List Str} {sp : Sp} {x m : Str} {p pos apos : Pos} {e o : Expr} {es : List Expr} {ta : TE} {t : TA}
theorem pe_mG {pl : Sem Bool} (D : DnM X.prog X.w X.K X.mg X.base C k m ps sp) (c : Cls X.K C) (hr : RoomG k X.A) (he : PE X o ta) (ha : PA X (e :: es) t)
    (hst : starEach (e :: es) X.env = (false, eval e X.env) :: starEach es X.env := by rfl) (hpl : (backTo pos (starEach es X.env)).any (·.1) = false := by rfl)
    (ht : eval (.Call (.Attribute o m apos) (e :: es) [] pos) X.env = (do
      let ov ← eval o X.env
      standAt apos.atName
      let (f, first) ← holding [ov] (getMethod ov m pl)
      callWith pos f first (backTo pos (starEach (e :: es) X.env)) (backToKw pos (keywordEach [] X.env))) := by rfl) :
    PE X (.Call (.Attribute o m apos) (e :: es) [] pos) (tMeth C m sp [] E0 ta t) := by
  obtain ⟨f, fd, F, hm, hb⟩ := D.ex
  refine ⟨fun pins s σ H Q I h => ?_⟩
  refine PySem.W.methodCall_KW (pl := pl) (thn (he.run pins s σ H _ I h) fun u s1 ⟨x, H1, I1, rx, a, dx, fs, ex, ea, l, q⟩ => ?_) ht
  subst ex
  obtain rfl : u = Value.ref a := rx
  refine getmeth_ok I1 ea c hm l ?_
  refine PySem.W.callWith_K (first := [.ref a]) (h₀ := X.base) I.ok.mod.kin hm.kp (thn (ha.run pos pins s1 σ H1 _ I1 q) fun us s2 ⟨vs, H2, I2, r, q2⟩ => ⟨I2.kIn, ?_⟩) hst hpl
  have q' : sp (.ref a :: vs) H2 Q E0 := by
    have z : sp (.ref a :: (vs ++ [])) H2 Q E0 := q2
    rw [List.append_nil] at z
    exact z
  exact run_G (us := .ref a :: us) (vs := .ref a :: vs) F hr hb (fun _ _ z => z.elim) I2 (.cons rfl r) q'
theorem pe_mG0 {pl : Sem Bool} (D : DnM X.prog X.w X.K X.mg X.base C k m ps sp) (c : Cls X.K C) (hr : RoomG k X.A) (he : PE X o ta)
    (ht : eval (.Call (.Attribute o m apos) [] [] pos) X.env = (do
      let ov ← eval o X.env
      standAt apos.atName
      let (f, first) ← holding [ov] (getMethod ov m pl)
      callWith pos f first (backTo pos (starEach [] X.env)) (backToKw pos (keywordEach [] X.env))) := by rfl) :
    PE X (.Call (.Attribute o m apos) [] [] pos) (tMeth C m sp [] E0 ta tNil) := by
  obtain ⟨f, fd, F, hm, hb⟩ := D.ex
  refine ⟨fun pins s σ H Q I h => ?_⟩
  refine PySem.W.methodCall_KW (pl := pl) (thn (he.run pins s σ H _ I h) fun u s1 ⟨x, H1, I1, rx, a, dx, fs, ex, ea, l, q⟩ => ?_) ht
  subst ex
  obtain rfl : u = Value.ref a := rx
  refine getmeth_ok I1 ea c hm l ?_
  exact PySem.W.callWith_K0 (first := [.ref a]) I1.kIn hm.kp (run_G (us := [.ref a]) (vs := [.ref a]) F hr hb (fun _ _ z => z.elim) I1 (.cons rfl .nil) q)
theorem run_mkG {pins : List (Addr × Obj)} {σ : L2.St} {H : Hp} {s : Shared} {Q : VK} {us : List Value} {vs : List V} {f : Addr} {fd : FuncData} (M : Mk X.K C f) (F : FnG X.prog X.w X.K X.mg X.base CX0 k f fd ps sp) (hr : RoomG (k + 1) X.A) (hb : Binds X.K fd ps [])
    (I : Inv X pins σ H s) (r : Vals vs us)
    (h : ∀ x dx, H x = none → H dx = none → dx ≠ x → sp (.ref x :: vs) (upd (upd H dx (.own x)) x (.ins C dx [])) (fun v H2 => v = .non ∧ Q (.ref x) H2) E0) :
    wpAny (model X.prog X.w) X.A (call (.ref C) us) (EP X pins σ Q) X.xe s := by
  have hq := h (s.heap.objs.size + 1) s.heap.objs.size (I.hok.fresh (Nat.le_succ _)) (I.hok.fresh (Nat.le_refl _)) (Nat.ne_of_lt (Nat.lt_succ_self _))
  have I2 := Inv.made (C := C) I
  have r2 : Vals (V.ref (s.heap.objs.size + 1) :: vs) (Value.ref (s.heap.objs.size + 1) :: us) := .cons rfl r
  have hl : (Value.ref (s.heap.objs.size + 1) :: us).length = ps.length := by
    rw [← r2.length]
    exact F.arity _ _ _ _ hq
  have b := hb { s with heap := _ } (Value.ref (s.heap.objs.size + 1) :: us) I2.kIn (by rw [List.append_nil]; exact hl)
  rw [List.append_nil] at b
  refine wpAny_call (make_map (f := f) I.kIn M.makes M.init (beq_iff_eq.mp M.fn) (codeAny_mono (F.go (hr.make C us []) (I2.env0.make C us []) b r2 hq) fun r s' hq' => ?_))
  cases r with
  | error e => exact hq'.elim
  | ok fl =>
    match fl, hq' with
    | .ret u, hq' =>
      obtain ⟨v, H', I3, rv, ev, q3⟩ := I2.after hq'
      subst ev
      exact ⟨rv, ⟨V.ref (s.heap.objs.size + 1), H', I3, rfl, q3⟩⟩
theorem pe_mkG (D : DnI X.prog X.w X.K X.mg X.base C k ps sp) (hr : RoomG (k + 1) X.A) (hg : Gl X x) (hm : X.mg x = some (.ref C)) (ha : PA X (e :: es) t) (hdb : (x == ("__debug__" : Str)) = false := by decide)
    (he : starEach (e :: es) X.env = (false, eval e X.env) :: starEach es X.env := by rfl) (hpl : (backTo pos (starEach es X.env)).any (·.1) = false := by rfl) :
    PE X (.Call (.Name x p) (e :: es) [] pos) (tMake C sp [] E0 t) := by
  obtain ⟨f, fd, F, M, hb⟩ := D.ex
  refine ⟨fun pins s σ H Q I h => ?_⟩
  refine wpAny_Call_Name_kw (ld_glob I hg hm ?_ hdb)
  refine PySem.W.callWith_K (h₀ := X.base) I.ok.mod.kin M.kp (thn (ha.run pos pins s σ H _ I h) fun us s1 ⟨vs, H1, I1, r, q⟩ => ⟨I1.kIn, ?_⟩) he hpl
  exact run_mkG M F hr hb I1 r fun x dx h1 h2 h3 => by
    have z := q x dx h1 h2 h3
    rw [List.append_nil] at z
    exact z
/-- o.f, as a target -/
def gFld (K : PySem.W.Frag) (to : TE) (f : Str) : TG := fun v σ H Q => to σ H fun x H1 => ∃ a C dx fs, x = .ref a ∧ H1 a = some (.ins C dx fs) ∧ Cls K C ∧ NoAttr K C f ∧ fs.length < 1000 ∧ Q σ (upd H1 a (.ins C dx (putF f v fs)))
theorem pg_fld {f : Str} {to : TE} (ho : PE X o to) : PG X (.Attribute o f pos) (gFld X.K to f) := by
  refine ⟨fun pins s σ H v u Q I r h => ?_⟩
  rw [assign_Attribute]
  refine wpAny_bind (wpAny_holding (thn (ho.run pins s σ H _ I h) fun ov s1 ⟨x, H1, I1, rx, a, C, dx, fs, ex, ea, c, n, l, q⟩ => ?_))
  subst ex
  obtain rfl : ov = Value.ref a := rx
  refine wpAny_bind (wpAny_standAt ?_)
  refine wpAny_bind (wpAny_holding (setattr_ok I1 ea c n l r fun s2 I2 => ?_))
  exact wpAny_release ⟨σ, _, I2, q⟩
end
end Toy
namespace Toy
open PySem PySem.Spec PyProof.Rows L2
theorem hp_same {H H' : Hp} {a : Addr} {o : HO} (s : Same H H') (h : H a = some o) : H' a = some o := s _ _ h
theorem hp_at {H H' : Hp} {a : Addr} {o : HO} (h : H a = some o) (s : Same H H') : H' a = some o := s _ _ h
theorem sql_at {K : PySem.W.Frag} {H H' : Hp} {p : Addr} {xs : List V} (h : SqL K H p xs) (s : Same H H') : SqL K H' p xs := s.seq h
theorem sqt_at {K : PySem.W.Frag} {H H' : Hp} {a : Addr} {xs : List V} (h : SqT K H a xs) (s : Same H H') : SqT K H' a xs := same_tup s h
theorem same_bk {H M H' : Hp} (b : Same M H') (a : Same H M) : Same H H' := a.trans b
theorem hp_new {H : Hp} {l a : Addr} {o u : HO} (n : H l = none) (h : H a = some o) : upd H l u a = some o := same_new n u _ _ h
theorem s1k : 1000 ≤ sizeLine := by decide
theorem lk1000 {n : Nat} (h : n ≤ 1000) : n ≤ sizeLine := Nat.le_trans h s1k
theorem lt1000 {n : Nat} (h : n < 1000) : n < sizeLine := Nat.lt_of_lt_of_le h s1k
theorem tyL {K : PySem.W.Frag} {H : Hp} {p : Addr} {xs : List V} (h : H p = some (.lst xs)) : tyV K "list" (.ref p) H := .inl ⟨rfl, xs, SqL.of h⟩
theorem sq_same {K : PySem.W.Frag} {H H' : Hp} {p : Addr} {xs : List V} (s : Same H H') (h : SqL K H p xs) : SqL K H' p xs := s.seq h
theorem newS {H H' : Hp} {l : Addr} {o : HO} (e : upd H l o = H') (n : H l = none) : Same H H' := e ▸ same_new n o
theorem newO {H H' : Hp} {l : Addr} {o : HO} (e : upd H l o = H') : H' l = some o := e ▸ upd_same
end Toy
namespace Toy
open PySem L2
def top (i : Nat) : Stmt := PySem.Challenge.pw_joinedasks_k96_whole_deeds_of_few_states.main.body.getD i (.Pass ⟨0, 0, 0, 0⟩)
abbrev s_is_whole : Stmt := top 10
theorem sc_is_whole : FnScope ["thing"] ["thing"] (defScope s_is_whole) := ⟨rfl, rfl, rfl, by decide +kernel, rfl, by decide +kernel, by decide +kernel⟩
abbrev s_is_within : Stmt := top 11
theorem sc_is_within : FnScope ["thing", "least", "most"] ["thing", "least", "most"] (defScope s_is_within) := ⟨rfl, rfl, rfl, by decide +kernel, rfl, by decide +kernel, by decide +kernel⟩
abbrev s_is_row_of : Stmt := top 12
theorem sc_is_row_of : FnScope ["thing", "many"] ["thing", "many"] (defScope s_is_row_of) := ⟨rfl, rfl, rfl, by decide +kernel, rfl, by decide +kernel, by decide +kernel⟩
abbrev s_want_whole : Stmt := top 13
theorem sc_want_whole : FnScope ["thing"] ["thing"] (defScope s_want_whole) := ⟨rfl, rfl, rfl, by decide +kernel, rfl, by decide +kernel, by decide +kernel⟩
abbrev s_want_within : Stmt := top 14
theorem sc_want_within : FnScope ["thing", "least", "most"] ["thing", "least", "most"] (defScope s_want_within) := ⟨rfl, rfl, rfl, by decide +kernel, rfl, by decide +kernel, by decide +kernel⟩
abbrev s_want_from : Stmt := top 15
theorem sc_want_from : FnScope ["thing", "least"] ["thing", "least"] (defScope s_want_from) := ⟨rfl, rfl, rfl, by decide +kernel, rfl, by decide +kernel, by decide +kernel⟩
abbrev s_is_by_table : Stmt := top 20
theorem sc_is_by_table : FnScope ["thing", "states", "state"] ["thing", "states"] (defScope s_is_by_table) := ⟨rfl, rfl, rfl, by decide +kernel, rfl, by decide +kernel, by decide +kernel⟩
abbrev s_are_by_table : Stmt := top 21
theorem sc_are_by_table : FnScope ["thing", "most", "states", "deed"] ["thing", "most"] (defScope s_are_by_table) := ⟨rfl, rfl, rfl, by decide +kernel, rfl, by decide +kernel, by decide +kernel⟩
abbrev s_one_then : Stmt := top 22
theorem sc_one_then : FnScope ["one", "other", "state"] ["one", "other"] (defScope s_one_then) := ⟨rfl, rfl, rfl, by decide +kernel, rfl, by decide +kernel, by decide +kernel⟩
abbrev s_grown : Stmt := top 23
theorem sc_grown : FnScope ["deeds", "found", "waiting", "here", "number", "deed", "made"] ["deeds"] (defScope s_grown) := ⟨rfl, rfl, rfl, by decide +kernel, rfl, by decide +kernel, by decide +kernel⟩
abbrev s_want_makers : Stmt := top 24
theorem sc_want_makers : FnScope ["deeds"] ["deeds"] (defScope s_want_makers) := ⟨rfl, rfl, rfl, by decide +kernel, rfl, by decide +kernel, by decide +kernel⟩
abbrev s_family : Stmt := top 25
theorem sc_family : FnScope ["deeds"] ["deeds"] (defScope s_family) := ⟨rfl, rfl, rfl, by decide +kernel, rfl, by decide +kernel, by decide +kernel⟩
abbrev s_words : Stmt := top 26
theorem sc_words : FnScope ["deeds"] ["deeds"] (defScope s_words) := ⟨rfl, rfl, rfl, by decide +kernel, rfl, by decide +kernel, by decide +kernel⟩
abbrev s_is_end : Stmt := top 29
theorem sc_is_end : FnScope ["thing"] ["thing"] (defScope s_is_end) := ⟨rfl, rfl, rfl, by decide +kernel, rfl, by decide +kernel, by decide +kernel⟩
abbrev s_is_deed : Stmt := top 30
theorem sc_is_deed : FnScope ["thing", "add", "low", "high"] ["thing"] (defScope s_is_deed) := ⟨rfl, rfl, rfl, by decide +kernel, rfl, by decide +kernel, by decide +kernel⟩
abbrev s_want_deed : Stmt := top 31
theorem sc_want_deed : FnScope ["thing"] ["thing"] (defScope s_want_deed) := ⟨rfl, rfl, rfl, by decide +kernel, rfl, by decide +kernel, by decide +kernel⟩
abbrev s_put_through : Stmt := top 32
theorem sc_put_through : FnScope ["deed", "value", "add", "low", "high", "found"] ["deed", "value"] (defScope s_put_through) := ⟨rfl, rfl, rfl, by decide +kernel, rfl, by decide +kernel, by decide +kernel⟩
abbrev s_done : Stmt := top 33
theorem sc_done : FnScope ["deed", "value"] ["deed", "value"] (defScope s_done) := ⟨rfl, rfl, rfl, by decide +kernel, rfl, by decide +kernel, by decide +kernel⟩
abbrev s_whole_deed : Stmt := top 34
theorem sc_whole_deed : FnScope ["add", "low", "high"] ["add", "low", "high"] (defScope s_whole_deed) := ⟨rfl, rfl, rfl, by decide +kernel, rfl, by decide +kernel, by decide +kernel⟩
abbrev s_one_behind : Stmt := top 35
theorem sc_one_behind : FnScope ["one", "other", "low", "high"] ["one", "other"] (defScope s_one_behind) := ⟨rfl, rfl, rfl, by decide +kernel, rfl, by decide +kernel, by decide +kernel⟩
abbrev s_again : Stmt := top 36
theorem sc_again : FnScope ["deed", "many", "add", "low", "high", "far"] ["deed", "many"] (defScope s_again) := ⟨rfl, rfl, rfl, by decide +kernel, rfl, by decide +kernel, by decide +kernel⟩
abbrev s_is_board : Stmt := top 40
theorem sc_is_board : FnScope ["thing", "value"] ["thing"] (defScope s_is_board) := ⟨rfl, rfl, rfl, by decide +kernel, rfl, by decide +kernel, by decide +kernel⟩
abbrev s_want_board : Stmt := top 41
theorem sc_want_board : FnScope ["board"] ["board"] (defScope s_want_board) := ⟨rfl, rfl, rfl, by decide +kernel, rfl, by decide +kernel, by decide +kernel⟩
abbrev s_is_ask : Stmt := top 42
theorem sc_is_ask : FnScope ["board", "thing"] ["board", "thing"] (defScope s_is_ask) := ⟨rfl, rfl, rfl, by decide +kernel, rfl, by decide +kernel, by decide +kernel⟩
abbrev s_are_asks : Stmt := top 43
theorem sc_are_asks : FnScope ["board", "thing", "one"] ["board", "thing"] (defScope s_are_asks) := ⟨rfl, rfl, rfl, by decide +kernel, rfl, by decide +kernel, by decide +kernel⟩
abbrev s_want_asks : Stmt := top 44
theorem sc_want_asks : FnScope ["board", "asks"] ["board", "asks"] (defScope s_want_asks) := ⟨rfl, rfl, rfl, by decide +kernel, rfl, by decide +kernel, by decide +kernel⟩
abbrev s_played : Stmt := top 45
theorem sc_played : FnScope ["board", "asks", "values", "answers", "hand", "box", "deed"] ["board", "asks"] (defScope s_played) := ⟨rfl, rfl, rfl, by decide +kernel, rfl, by decide +kernel, by decide +kernel⟩
abbrev s_all_of : Stmt := top 46
theorem sc_all_of : FnScope ["board", "asks", "found", "hand", "box", "deed"] ["board", "asks"] (defScope s_all_of) := ⟨rfl, rfl, rfl, by decide +kernel, rfl, by decide +kernel, by decide +kernel⟩
abbrev s_want_many : Stmt := top 49
theorem sc_want_many : FnScope ["many"] ["many"] (defScope s_want_many) := ⟨rfl, rfl, rfl, by decide +kernel, rfl, by decide +kernel, by decide +kernel⟩
abbrev s_is_tree : Stmt := top 50
theorem sc_is_tree : FnScope ["thing", "many", "waiting", "come", "one"] ["thing", "many"] (defScope s_is_tree) := ⟨rfl, rfl, rfl, by decide +kernel, rfl, by decide +kernel, by decide +kernel⟩
abbrev s_want_deeds : Stmt := top 51
theorem sc_want_deeds : FnScope ["deeds", "one"] ["deeds"] (defScope s_want_deeds) := ⟨rfl, rfl, rfl, by decide +kernel, rfl, by decide +kernel, by decide +kernel⟩
abbrev s_want_tree : Stmt := top 52
theorem sc_want_tree : FnScope ["tree", "many"] ["tree", "many"] (defScope s_want_tree) := ⟨rfl, rfl, rfl, by decide +kernel, rfl, by decide +kernel, by decide +kernel⟩
abbrev s_folded_of : Stmt := top 53
theorem sc_folded_of : FnScope ["deeds", "tree"] ["deeds", "tree"] (defScope s_folded_of) := ⟨rfl, rfl, rfl, by decide +kernel, rfl, by decide +kernel, by decide +kernel⟩
abbrev s_folded : Stmt := top 54
theorem sc_folded : FnScope ["deeds", "tree"] ["deeds", "tree"] (defScope s_folded) := ⟨rfl, rfl, rfl, by decide +kernel, rfl, by decide +kernel, by decide +kernel⟩
abbrev s_shared_of : Stmt := top 55
theorem sc_shared_of : FnScope ["deeds", "tree", "value", "left", "one", "right", "other"] ["deeds", "tree", "value"] (defScope s_shared_of) := ⟨rfl, rfl, rfl, by decide +kernel, rfl, by decide +kernel, by decide +kernel⟩
abbrev s_shared_out : Stmt := top 56
theorem sc_shared_out : FnScope ["deeds", "tree", "value"] ["deeds", "tree", "value"] (defScope s_shared_out) := ⟨rfl, rfl, rfl, by decide +kernel, rfl, by decide +kernel, by decide +kernel⟩
abbrev s_chained : Stmt := top 57
theorem sc_chained : FnScope ["many", "found", "number"] ["many"] (defScope s_chained) := ⟨rfl, rfl, rfl, by decide +kernel, rfl, by decide +kernel, by decide +kernel⟩
abbrev s_are_numbers : Stmt := top 60
theorem sc_are_numbers : FnScope ["thing", "many", "number"] ["thing", "many"] (defScope s_are_numbers) := ⟨rfl, rfl, rfl, by decide +kernel, rfl, by decide +kernel, by decide +kernel⟩
abbrev s_is_table : Stmt := top 61
theorem sc_is_table : FnScope ["thing", "row"] ["thing"] (defScope s_is_table) := ⟨rfl, rfl, rfl, by decide +kernel, rfl, by decide +kernel, by decide +kernel⟩
abbrev s_want_table : Stmt := top 62
theorem sc_want_table : FnScope ["table"] ["table"] (defScope s_want_table) := ⟨rfl, rfl, rfl, by decide +kernel, rfl, by decide +kernel, by decide +kernel⟩
abbrev s_want_by_table : Stmt := top 63
theorem sc_want_by_table : FnScope ["deeds", "table"] ["deeds", "table"] (defScope s_want_by_table) := ⟨rfl, rfl, rfl, by decide +kernel, rfl, by decide +kernel, by decide +kernel⟩
abbrev s_want_numbers : Stmt := top 64
theorem sc_want_numbers : FnScope ["table", "numbers"] ["table", "numbers"] (defScope s_want_numbers) := ⟨rfl, rfl, rfl, by decide +kernel, rfl, by decide +kernel, by decide +kernel⟩
abbrev s_want_grouped : Stmt := top 65
theorem sc_want_grouped : FnScope ["numbers", "tree"] ["numbers", "tree"] (defScope s_want_grouped) := ⟨rfl, rfl, rfl, by decide +kernel, rfl, by decide +kernel, by decide +kernel⟩
abbrev s_own_table : Stmt := top 66
theorem sc_own_table : FnScope ["deeds", "some", "number_of", "number", "deed", "one", "other"] ["deeds"] (defScope s_own_table) := ⟨rfl, rfl, rfl, by decide +kernel, rfl, by decide +kernel, by decide +kernel⟩
abbrev s_fold : Stmt := top 67
theorem sc_fold : FnScope ["table", "numbers", "tree"] ["table", "numbers", "tree"] (defScope s_fold) := ⟨rfl, rfl, rfl, by decide +kernel, rfl, by decide +kernel, by decide +kernel⟩
abbrev s_share : Stmt := top 68
theorem sc_share : FnScope ["deeds", "table", "numbers", "tree", "state", "behind", "ahead"] ["deeds", "table", "numbers", "tree", "state"] (defScope s_share) := ⟨rfl, rfl, rfl, by decide +kernel, rfl, by decide +kernel, by decide +kernel⟩
abbrev s_folded_by : Stmt := top 69
theorem sc_folded_by : FnScope ["table", "numbers", "tree"] ["table", "numbers", "tree"] (defScope s_folded_by) := ⟨rfl, rfl, rfl, by decide +kernel, rfl, by decide +kernel, by decide +kernel⟩
abbrev s_shared_by : Stmt := top 70
theorem sc_shared_by : FnScope ["deeds", "table", "numbers", "tree", "state"] ["deeds", "table", "numbers", "tree", "state"] (defScope s_shared_by) := ⟨rfl, rfl, rfl, by decide +kernel, rfl, by decide +kernel, by decide +kernel⟩
abbrev s_stays : Stmt := top 72
theorem sc_stays : FnScope ["deed", "add", "low", "high", "end"] ["deed"] (defScope s_stays) := ⟨rfl, rfl, rfl, by decide +kernel, rfl, by decide +kernel, by decide +kernel⟩
abbrev s_is_beyond : Stmt := top 73
theorem sc_is_beyond : FnScope ["deed", "value", "low", "high"] ["deed", "value"] (defScope s_is_beyond) := ⟨rfl, rfl, rfl, by decide +kernel, rfl, by decide +kernel, by decide +kernel⟩
abbrev s_leads : Stmt := top 74
theorem sc_leads : FnScope ["deed", "value", "at"] ["deed", "value"] (defScope s_leads) := ⟨rfl, rfl, rfl, by decide +kernel, rfl, by decide +kernel, by decide +kernel⟩
abbrev s__law_store : Stmt := top 76
theorem sc__law_store : FnScope ["_law_script", "_law_k", "_law_cell"] ["_law_script", "_law_k"] (defScope s__law_store) := ⟨rfl, rfl, rfl, by decide +kernel, rfl, by decide +kernel, by decide +kernel⟩
abbrev s__law_draw : Stmt := top 77
theorem sc__law_draw : FnScope ["_law_store_here", "_law_many", "_law_digit"] ["_law_store_here", "_law_many"] (defScope s__law_draw) := ⟨rfl, rfl, rfl, by decide +kernel, rfl, by decide +kernel, by decide +kernel⟩
abbrev s__law_tree : Stmt := top 78
theorem sc__law_tree : FnScope ["_law_store_here", "_law_first", "_law_many", "_law_left", "_law_one"] ["_law_store_here", "_law_first", "_law_many"] (defScope s__law_tree) := ⟨rfl, rfl, rfl, by decide +kernel, rfl, by decide +kernel, by decide +kernel⟩
abbrev s__law_drawn : Stmt := top 79
theorem sc__law_drawn : FnScope ["_law_store_here", "_law_states", "_law_choice", "_law_add", "_law_low", "_law_high"] ["_law_store_here", "_law_states"] (defScope s__law_drawn) := ⟨rfl, rfl, rfl, by decide +kernel, rfl, by decide +kernel, by decide +kernel⟩
abbrev s__law_by_table : Stmt := top 80
theorem sc__law_by_table : FnScope ["_law_deed", "_law_states", "_law_state"] ["_law_deed", "_law_states"] (defScope s__law_by_table) := ⟨rfl, rfl, rfl, by decide +kernel, rfl, by decide +kernel, by decide +kernel⟩
abbrev s__law_made : Stmt := top 81
theorem sc__law_made : FnScope ["_law_deeds", "_law_word", "_law_number"] ["_law_deeds", "_law_word"] (defScope s__law_made) := ⟨rfl, rfl, rfl, by decide +kernel, rfl, by decide +kernel, by decide +kernel⟩
abbrev s__law_power : Stmt := top 82
theorem sc__law_power : FnScope ["_law_maker", "_law_many", "_law_rows", "_law_k", "_law_ahead", "_law_state"] ["_law_maker", "_law_many"] (defScope s__law_power) := ⟨rfl, rfl, rfl, by decide +kernel, rfl, by decide +kernel, by decide +kernel⟩
abbrev s__law_within : Stmt := top 83
theorem sc__law_within : FnScope ["_law_span", "_law_state"] ["_law_span", "_law_state"] (defScope s__law_within) := ⟨rfl, rfl, rfl, by decide +kernel, rfl, by decide +kernel, by decide +kernel⟩
abbrev s__law_keeps : Stmt := top 84
theorem sc__law_keeps : FnScope ["_law_deed", "_law_maker", "_law_state", "_law_other", "_law_one"] ["_law_deed", "_law_maker"] (defScope s__law_keeps) := ⟨rfl, rfl, rfl, by decide +kernel, rfl, by decide +kernel, by decide +kernel⟩
abbrev s__law_asked : Stmt := top 85
theorem sc__law_asked : FnScope ["_law_wholes", "_law_makers", "_law_numbers", "_law_tree_here", "_law_start", "_law_some", "_law_table", "_law_deeds", "_law_values", "_law_asks", "_law_number", "_law_k", "_law_deed"] ["_law_wholes", "_law_makers", "_law_numbers", "_law_tree_here", "_law_start"] (defScope s__law_asked) := ⟨rfl, rfl, rfl, by decide +kernel, rfl, by decide +kernel, by decide +kernel⟩
abbrev s__law_right : Stmt := top 86
theorem sc__law_right : FnScope ["_law_store_here", "_law_many", "_law_states", "_law_often", "_law_deeds", "_law_deed", "_law_makers", "_law_wholes", "_law_maker", "_law_numbers", "_law_tree_here", "_law_k", "_law_word", "_law_whole"] ["_law_store_here"] (defScope s__law_right) := ⟨rfl, rfl, rfl, by decide +kernel, rfl, by decide +kernel, by decide +kernel⟩
abbrev s_law : Stmt := top 87
theorem sc_law : FnScope ["_law_script", "_law_k"] ["_law_script"] (defScope s_law) := ⟨rfl, rfl, rfl, by decide +kernel, rfl, by decide +kernel, by decide +kernel⟩
structure Bl (K : PySem.W.Frag) (mg : Str → Option Value) : Prop where
  abs_ : mg "abs" = none
  all_ : mg "all" = none
  bool_ : mg "bool" = none
  dict_ : mg "dict" = none
  enumerate_ : mg "enumerate" = none
  int_ : mg "int" = none
  isinstance_ : mg "isinstance" = none
  len_ : mg "len" = none
  list_ : mg "list" = none
  max_ : mg "max" = none
  min_ : mg "min" = none
  range_ : mg "range" = none
  tuple_ : mg "tuple" = none
  zip_ : mg "zip" = none
  MOST_STATES_ : ∃ t, mg "MOST_STATES" = some (.int (5) t)
  MOST_MAKERS_ : ∃ t, mg "MOST_MAKERS" = some (.int (4) t)
  MOST_FAMILY_ : ∃ t, mg "MOST_FAMILY" = some (.int (60) t)
  LOOK_ : ∃ a, mg "LOOK" = some (.ref a) ∧ KTup K a [.int 0, .non, .non]
  MOST_BOXES_ : ∃ t, mg "MOST_BOXES" = some (.int (16) t)
  HANDS_ : ∃ t, mg "HANDS" = some (.int (16) t)
  MOST_DEEDS_ : ∃ t, mg "MOST_DEEDS" = some (.int (40) t)
  MOST_NUMBERS_ : ∃ t, mg "MOST_NUMBERS" = some (.int (40) t)

/-! ### data: a deed -/
structure Dd where
  add : Int
  low : Option Int
  high : Option Int
def oV : Option Int → V
  | none => .non
  | some i => .int i
def Dd.vs (d : Dd) : List V := [.int d.add, oV d.low, oV d.high]
def Dd.at_ (K : PySem.W.Frag) (H : Hp) (a : Addr) (d : Dd) : Prop := SqT K H a d.vs
/-- the ends stand right -/
def Dd.Ok (d : Dd) : Prop := ∀ l h, d.low = some l → d.high = some h → l < h ∨ (l = h ∧ d.add = 0)
def up (o : Option Int) (f : Int) : Int := match o with | none => f | some l => if f > l then f else l
def dn (o : Option Int) (f : Int) : Int := match o with | none => f | some h => if f < h then f else h
def Dd.ap (d : Dd) (v : Int) : Int := dn d.high (up d.low (v + d.add))
def hi (o : Option Int) (f : Int) : Int := match o with | none => f | some h => if f > h then h else f
def mk (d : Dd) (v : Int) : Int := match d.low with | none => hi d.high (v + d.add) | some l => if v + d.add < l then l else hi d.high (v + d.add)
theorem mk_eq {d : Dd} (ok : d.Ok) (v : Int) : mk d v = d.ap v := by
  obtain ⟨add, low, high⟩ := d
  have ok' := ok
  unfold Dd.Ok at ok'
  cases low with
  | none =>
    cases high with
    | none => rfl
    | some h =>
      show (if v + add > h then h else v + add) = if v + add < h then v + add else h
      by_cases c : v + add > h
      · rw [if_pos c, if_neg (by omega)]
      · rw [if_neg c]
        by_cases c2 : v + add < h
        · rw [if_pos c2]
        · rw [if_neg c2]; omega
  | some l =>
    cases high with
    | none =>
      show (if v + add < l then l else v + add) = if v + add > l then v + add else l
      by_cases c : v + add < l
      · rw [if_pos c, if_neg (by omega)]
      · rw [if_neg c]
        by_cases c2 : v + add > l
        · rw [if_pos c2]
        · rw [if_neg c2]; omega
    | some h =>
      have := ok' l h rfl rfl
      show (if v + add < l then l else if v + add > h then h else v + add) = if (if v + add > l then v + add else l) < h then (if v + add > l then v + add else l) else h
      by_cases c : v + add < l
      · rw [if_pos c, if_neg (show ¬ v + add > l by omega)]
        by_cases c2 : l < h
        · rw [if_pos c2]
        · rw [if_neg c2]; omega
      · rw [if_neg c]
        have e : (if v + add > l then v + add else l) = v + add := by
          by_cases c2 : v + add > l
          · rw [if_pos c2]
          · rw [if_neg c2]; omega
        rw [e]
        by_cases c2 : v + add > h
        · rw [if_pos c2, if_neg (by omega)]
        · rw [if_neg c2]
          by_cases c3 : v + add < h
          · rw [if_pos c3]
          · rw [if_neg c3]; omega
/-- all numbers of a deed are within b -/
def Dd.In (b : Int) (d : Dd) : Prop := -b ≤ d.add ∧ d.add ≤ b ∧ (∀ l, d.low = some l → -b ≤ l ∧ l ≤ b) ∧ ∀ l, d.high = some l → -b ≤ l ∧ l ≤ b
theorem in_mk {b add : Int} {low high : Option Int} (h1 : -b ≤ add) (h2 : add ≤ b) (hl : ∀ l, low = some l → -b ≤ l ∧ l ≤ b) (hh : ∀ l, high = some l → -b ≤ l ∧ l ≤ b) : Dd.In b ⟨add, low, high⟩ := ⟨h1, h2, hl, hh⟩
theorem in_none {b : Int} : ∀ l, (none : Option Int) = some l → -b ≤ l ∧ l ≤ b := fun _ h => nomatch h
theorem in_some {b x : Int} (h1 : -b ≤ x) (h2 : x ≤ b) : ∀ l, some x = some l → -b ≤ l ∧ l ≤ b := fun l h => by cases h; exact ⟨h1, h2⟩
theorem ap_in {b c : Int} {d : Dd} {v : Int} (h : d.In b) (h1 : -c ≤ v) (h2 : v ≤ c) (h0 : 0 ≤ c) : -(b + c) ≤ d.ap v ∧ d.ap v ≤ b + c := by
  obtain ⟨a1, a2, hl, hh⟩ := h
  unfold Dd.ap dn up
  cases el : d.low with
  | none =>
    cases eh : d.high with
    | none => dsimp only; omega
    | some k => have := hh k eh; dsimp only; split <;> omega
  | some l =>
    have := hl l el
    cases eh : d.high with
    | none => dsimp only; split <;> omega
    | some k => have := hh k eh; dsimp only; split <;> split <;> omega
theorem fits {i : Int} (h1 : -(10 ^ 40) ≤ i) (h2 : i ≤ 10 ^ 40) : i.natAbs.log2 < 1920 := by
  refine log_lt (by decide) (Nat.lt_of_le_of_lt (m := 10 ^ 40) (by omega) (by decide))
theorem menu7 : ∀ j : Nat, j < 7 → ∃ z : Int, ([.int 3, .int 5, .int 11, .int 17, .int 29, .int 37, .int 41] : List V)[j]? = some (.int z) ∧ 0 < z ∧ z ≤ 41
  | 0, _ => ⟨_, rfl, by decide, by decide⟩
  | 1, _ => ⟨_, rfl, by decide, by decide⟩
  | 2, _ => ⟨_, rfl, by decide, by decide⟩
  | 3, _ => ⟨_, rfl, by decide, by decide⟩
  | 4, _ => ⟨_, rfl, by decide, by decide⟩
  | 5, _ => ⟨_, rfl, by decide, by decide⟩
  | 6, _ => ⟨_, rfl, by decide, by decide⟩
  | n + 7, h => absurd h (by omega)
theorem menu6 : ∀ j : Nat, j < 6 → ∃ z : Int, ([.int 4, .int 12, .int 1000, .int (10 ^ Int.toNat 9), .int (10 ^ Int.toNat 29), .int (10 ^ Int.toNat 29)] : List V)[j]? = some (.int z) ∧ 1 ≤ z ∧ z ≤ 10 ^ 29
  | 0, _ => ⟨_, rfl, by decide, by decide⟩
  | 1, _ => ⟨_, rfl, by decide, by decide⟩
  | 2, _ => ⟨_, rfl, by decide, by decide⟩
  | 3, _ => ⟨_, rfl, by decide, by decide⟩
  | 4, _ => ⟨_, rfl, by decide, by decide⟩
  | 5, _ => ⟨_, rfl, by decide, by decide⟩
  | n + 6, h => absurd h (by omega)
def PotAt (H : Hp) (p : Addr) : Prop := ∃ a b : Int, H p = some (.lst [.int a, .int b]) ∧ 0 ≤ a ∧ 0 ≤ b ∧ b < 2 ^ 40
theorem PotAt.same {H H' : Hp} {p : Addr} (e : Same H H') (h : PotAt H p) : PotAt H' p := by
  obtain ⟨a, b, h1, h2⟩ := h
  exact ⟨a, b, e _ _ h1, h2⟩
def DeedArg (K : PySem.W.Frag) (H : Hp) (a : Addr) (d : Dd) : Prop := TyX K H (.ref a) (.type "tuple") ∧ SqT K H a d.vs ∧ d.Ok
def Dz (H : Hp) (a : Addr) (d : Dd) : Prop := H a = some (.tup d.vs) ∧ d.In (10 ^ 29 + 3) ∧ d.Ok
theorem Dz.arg {K : PySem.W.Frag} {H : Hp} {a : Addr} {d : Dd} (h : Dz H a d) : DeedArg K H a d := ⟨.base (.tup h.1), SqT.of h.1, h.2.2⟩
theorem Dz.same {H H' : Hp} {a : Addr} {d : Dd} (e : Same H H') (h : Dz H a d) : Dz H' a d := ⟨e _ _ h.1, h.2⟩
def look : Dd := ⟨0, none, none⟩
theorem look_ok : look.Ok := fun _ _ h => nomatch h
theorem look_in {b : Int} (h : 0 ≤ b) : look.In b := in_mk (by omega) (by omega) in_none in_none
theorem pot_ne {H : Hp} {p a : Addr} (h : PotAt H p) (n : H a = none) : a ≠ p := fun z => by obtain ⟨_, _, h1, _⟩ := h; rw [← z, n] at h1; cases h1
/-! ### two deeds as one -/
def wholeD (add : Int) (low high : Option Int) : Dd := if low ≠ none ∧ low = high then ⟨0, low, high⟩ else ⟨add, low, high⟩
theorem wholeD_low {add : Int} {low high : Option Int} : (wholeD add low high).low = low := by unfold wholeD; split <;> rfl
theorem wholeD_high {add : Int} {low high : Option Int} : (wholeD add low high).high = high := by unfold wholeD; split <;> rfl
theorem wholeD_add {add : Int} {low high : Option Int} : (wholeD add low high).add = if low ≠ none ∧ low = high then 0 else add := by unfold wholeD; split <;> rfl
def endBeh (b : Dd) (o p : Option Int) : Option Int := match o with | none => p | some l => some (b.ap l)
def beh (a b : Dd) : Dd := wholeD (a.add + b.add) (endBeh b a.low b.low) (endBeh b a.high b.high)
theorem up_mono {o : Option Int} {x y : Int} (h : x ≤ y) : up o x ≤ up o y := by
  cases o with
  | none => exact h
  | some l =>
    show (if x > l then x else l) ≤ (if y > l then y else l)
    split <;> split <;> omega
theorem dn_mono {o : Option Int} {x y : Int} (h : x ≤ y) : dn o x ≤ dn o y := by
  cases o with
  | none => exact h
  | some l =>
    show (if x < l then x else l) ≤ (if y < l then y else l)
    split <;> split <;> omega
theorem ap_mono (d : Dd) {x y : Int} (h : x ≤ y) : d.ap x ≤ d.ap y := dn_mono (up_mono (by omega))
/-- what is made, by the four ways -/
theorem ap_nn (d : Dd) (v : Int) (h1 : d.low = none) (h2 : d.high = none) : d.ap v = v + d.add := by unfold Dd.ap; rw [h1, h2] <;> rfl
theorem ap_sn (d : Dd) (v l : Int) (h1 : d.low = some l) (h2 : d.high = none) : d.ap v = if v + d.add > l then v + d.add else l := by unfold Dd.ap; rw [h1, h2] <;> rfl
theorem ap_ns (d : Dd) (v h : Int) (h1 : d.low = none) (h2 : d.high = some h) : d.ap v = if v + d.add < h then v + d.add else h := by unfold Dd.ap; rw [h1, h2] <;> rfl
theorem ap_ss (d : Dd) (v l h : Int) (h1 : d.low = some l) (h2 : d.high = some h) : d.ap v = if (if v + d.add > l then v + d.add else l) < h then (if v + d.add > l then v + d.add else l) else h := by unfold Dd.ap; rw [h1, h2] <;> rfl
/-- facts for omega -/
theorem ap_cases (d : Dd) (ok : d.Ok) (v : Int) :
    (∀ l, d.low = some l → l ≤ d.ap v ∧ (v + d.add ≤ l → d.ap v = l)) ∧ (∀ h, d.high = some h → d.ap v ≤ h ∧ (h ≤ v + d.add → d.ap v = h)) ∧
    ((d.low = none ∨ ∃ l, d.low = some l ∧ l ≤ v + d.add) → (d.high = none ∨ ∃ h, d.high = some h ∧ v + d.add ≤ h) → d.ap v = v + d.add) := by
  cases e1 : d.low with
  | none =>
    cases e2 : d.high with
    | none =>
      rw [ap_nn d v e1 e2]
      exact ⟨fun _ h => (nomatch h), fun _ h => (nomatch h), fun _ _ => rfl⟩
    | some h =>
      rw [ap_ns d v h e1 e2]
      refine ⟨fun _ h => (nomatch h), fun k hk => ?_, fun _ h2 => ?_⟩
      · cases hk; split <;> omega
      · rcases h2 with h2 | ⟨k, hk, h2⟩
        · cases h2
        · cases hk; split <;> omega
  | some l =>
    cases e2 : d.high with
    | none =>
      rw [ap_sn d v l e1 e2]
      refine ⟨fun k hk => ?_, fun _ h => (nomatch h), fun h1 _ => ?_⟩
      · cases hk; split <;> omega
      · rcases h1 with h1 | ⟨k, hk, h1⟩
        · cases h1
        · cases hk; split <;> omega
    | some h =>
      have o := ok l h e1 e2
      rw [ap_ss d v l h e1 e2]
      refine ⟨fun k hk => ?_, fun k hk => ?_, fun h1 h2 => ?_⟩
      · cases hk
        by_cases c : v + d.add > l
        · rw [if_pos c]; split <;> omega
        · rw [if_neg c]; split <;> omega
      · cases hk
        by_cases c : v + d.add > l
        · rw [if_pos c]; split <;> omega
        · rw [if_neg c]; split <;> omega
      · rcases h1 with h1 | ⟨k, hk, h1⟩
        · cases h1
        rcases h2 with h2 | ⟨k', hk', h2⟩
        · cases h2
        cases hk; cases hk'
        by_cases c : v + d.add > l
        · rw [if_pos c]; split <;> omega
        · rw [if_neg c]; split <;> omega
theorem beh_ok {a b : Dd} (ha : a.Ok) (hb : b.Ok) : (beh a b).Ok := by
  intro l h h1 h2
  unfold beh at h1 h2 ⊢
  rw [wholeD_low] at h1
  rw [wholeD_high] at h2
  rw [wholeD_add]
  have key : l ≤ h := by
    unfold endBeh at h1 h2
    cases e1 : a.low with
    | none =>
      rw [e1] at h1
      cases e2 : a.high with
      | none =>
        rw [e2] at h2
        have := hb l h h1 h2
        omega
      | some k =>
        rw [e2] at h2
        cases h2
        exact ((ap_cases b hb k).1 l h1).1
    | some j =>
      rw [e1] at h1
      cases h1
      cases e2 : a.high with
      | none =>
        rw [e2] at h2
        exact ((ap_cases b hb j).2.1 h h2).1
      | some k =>
        rw [e2] at h2
        cases h2
        have := ha j k e1 e2
        exact ap_mono b (by omega)
  by_cases c : l = h
  · right
    refine ⟨c, if_pos ⟨by rw [h1]; exact Option.some_ne_none l, by rw [h1, h2, c]⟩⟩
  · left; omega
/-- the ends of a deed -/
theorem ap_low {d : Dd} (ok : d.Ok) {l v : Int} (h : d.low = some l) (hv : v + d.add ≤ l) : d.ap v = l := ((ap_cases d ok v).1 l h).2 hv
theorem ap_high {d : Dd} (ok : d.Ok) {l v : Int} (h : d.high = some l) (hv : l ≤ v + d.add) : d.ap v = l := ((ap_cases d ok v).2.1 l h).2 hv
theorem whole_ap {add : Int} {low high : Option Int} {v w : Int} (hl : ∀ l, low = some l → l ≤ w) (hh : ∀ h, high = some h → w ≤ h)
    (h1 : (∀ l, low = some l → v + add ≤ l → w = l)) (h2 : (∀ h, high = some h → h ≤ v + add → w = h))
    (h3 : (low = none ∨ ∃ l, low = some l ∧ l ≤ v + add) → (high = none ∨ ∃ h, high = some h ∧ v + add ≤ h) → w = v + add) : (wholeD add low high).ap v = w := by
  cases e1 : low with
  | none =>
    have e3 : wholeD add none high = ⟨add, none, high⟩ := by unfold wholeD; rw [if_neg (fun z => z.1 rfl)]
    rw [e3]
    cases e2 : high with
    | none => rw [ap_nn _ _ rfl rfl]; exact (h3 (.inl e1) (.inl e2)).symm
    | some h =>
      rw [ap_ns _ _ h rfl rfl]
      show (if v + add < h then v + add else h) = w
      have a2 := h2 h e2
      have a3 := h3 (.inl e1)
      split
      · exact (a3 (.inr ⟨h, e2, by omega⟩)).symm
      · exact (a2 (by omega)).symm
  | some l =>
    have b1 := hl l e1
    cases e2 : high with
    | none =>
      have e3 : wholeD add (some l) none = ⟨add, some l, none⟩ := by unfold wholeD; rw [if_neg (fun z => nomatch z.2)]
      rw [e3, ap_sn _ _ l rfl rfl]
      show (if v + add > l then v + add else l) = w
      have a1 := h1 l e1
      split
      · exact (h3 (.inr ⟨l, e1, by omega⟩) (.inl e2)).symm
      · exact (a1 (by omega)).symm
    | some h =>
      have b2 := hh h e2
      by_cases c : l = h
      · subst c
        have e3 : wholeD add (some l) (some l) = ⟨0, some l, some l⟩ := by unfold wholeD; rw [if_pos ⟨Option.some_ne_none l, rfl⟩]
        rw [e3, ap_ss _ _ l l rfl rfl]
        split <;> omega
      · have e3 : wholeD add (some l) (some h) = ⟨add, some l, some h⟩ := by unfold wholeD; rw [if_neg (fun z => c (Option.some.inj z.2))]
        rw [e3, ap_ss _ _ l h rfl rfl]
        show (if (if v + add > l then v + add else l) < h then (if v + add > l then v + add else l) else h) = w
        have a1 := h1 l e1
        have a2 := h2 h e2
        by_cases c1 : v + add > l
        · rw [if_pos c1]
          split
          · exact (h3 (.inr ⟨l, e1, by omega⟩) (.inr ⟨h, e2, by omega⟩)).symm
          · exact (a2 (by omega)).symm
        · rw [if_neg c1]
          have := a1 (by omega)
          split <;> omega
theorem beh_ap {a b : Dd} (ha : a.Ok) (hb : b.Ok) (v : Int) : (beh a b).ap v = b.ap (a.ap v) := by
  obtain ⟨A1, A2, A3⟩ := ap_cases a ha v
  obtain ⟨B1, B2, B3⟩ := ap_cases b hb (a.ap v)
  have P3 : ∀ l, endBeh b a.low b.low = some l → v + (a.add + b.add) ≤ l → b.ap (a.ap v) = l := by
    intro l hl hv
    unfold endBeh at hl
    cases e : a.low with
    | none =>
      rw [e] at hl
      refine (B1 l hl).2 ?_
      cases e2 : a.high with
      | none => rw [A3 (.inl e) (.inl e2)]; omega
      | some k =>
        by_cases c : v + a.add ≤ k
        · rw [A3 (.inl e) (.inr ⟨k, e2, c⟩)]; omega
        · rw [(A2 k e2).2 (by omega)]; omega
    | some j =>
      rw [e] at hl
      cases hl
      -- v + a.add + b.add ≤ b.ap j
      by_cases c : v + a.add ≤ j
      · rw [(A1 j e).2 c]
      · have m : b.ap j ≤ b.ap (a.ap v) := ap_mono b (A1 j e).1
        have n : b.ap (a.ap v) ≤ b.ap (v + a.add) := by
          refine ap_mono b ?_
          cases e2 : a.high with
          | none => rw [A3 (.inr ⟨j, e, by omega⟩) (.inl e2)]; omega
          | some k =>
            by_cases c : v + a.add ≤ k
            · rw [A3 (.inr ⟨j, e, by omega⟩) (.inr ⟨k, e2, c⟩)]; omega
            · rw [(A2 k e2).2 (by omega)]; omega
        -- b at v + a.add is at most max of its sum and its low end
        obtain ⟨C1, C2, C3⟩ := ap_cases b hb (v + a.add)
        obtain ⟨D1, D2, D3⟩ := ap_cases b hb j
        cases f1 : b.low with
        | none =>
          cases f2 : b.high with
          | none => have := C3 (.inl f1) (.inl f2); have := D3 (.inl f1) (.inl f2); omega
          | some k =>
            have := C2 k f2; have := D2 k f2
            by_cases c3 : v + a.add + b.add ≤ k
            · have := C3 (.inl f1) (.inr ⟨k, f2, c3⟩); have := D3 (.inl f1) (.inr ⟨k, f2, by omega⟩); omega
            · omega
        | some i =>
          have := C1 i f1; have := D1 i f1
          cases f2 : b.high with
          | none =>
            by_cases c3 : i ≤ v + a.add + b.add
            · have := C3 (.inr ⟨i, f1, c3⟩) (.inl f2)
              by_cases c4 : i ≤ j + b.add
              · have := D3 (.inr ⟨i, f1, c4⟩) (.inl f2); omega
              · omega
            · omega
          | some k =>
            have := C2 k f2; have := D2 k f2
            by_cases c3 : i ≤ v + a.add + b.add
            · by_cases c5 : v + a.add + b.add ≤ k
              · have := C3 (.inr ⟨i, f1, c3⟩) (.inr ⟨k, f2, c5⟩)
                by_cases c4 : i ≤ j + b.add
                · have := D3 (.inr ⟨i, f1, c4⟩) (.inr ⟨k, f2, by omega⟩); omega
                · omega
              · omega
            · omega
  have P4 : ∀ h, endBeh b a.high b.high = some h → h ≤ v + (a.add + b.add) → b.ap (a.ap v) = h := by
    intro h hh hv
    unfold endBeh at hh
    cases e : a.high with
    | none =>
      rw [e] at hh
      refine (B2 h hh).2 ?_
      cases e2 : a.low with
      | none => rw [A3 (.inl e2) (.inl e)]; omega
      | some k =>
        by_cases c : k ≤ v + a.add
        · rw [A3 (.inr ⟨k, e2, c⟩) (.inl e)]; omega
        · rw [(A1 k e2).2 (by omega)]; omega
    | some j =>
      rw [e] at hh
      cases hh
      by_cases c : j ≤ v + a.add
      · rw [(A2 j e).2 c]
      · have m : b.ap (a.ap v) ≤ b.ap j := ap_mono b (A2 j e).1
        have n : b.ap (v + a.add) ≤ b.ap (a.ap v) := by
          refine ap_mono b ?_
          cases e2 : a.low with
          | none => rw [A3 (.inl e2) (.inr ⟨j, e, by omega⟩)]; omega
          | some k =>
            by_cases c : k ≤ v + a.add
            · rw [A3 (.inr ⟨k, e2, c⟩) (.inr ⟨j, e, by omega⟩)]; omega
            · rw [(A1 k e2).2 (by omega)]; omega
        obtain ⟨C1, C2, C3⟩ := ap_cases b hb (v + a.add)
        obtain ⟨D1, D2, D3⟩ := ap_cases b hb j
        cases f1 : b.high with
        | none =>
          cases f2 : b.low with
          | none => have := C3 (.inl f2) (.inl f1); have := D3 (.inl f2) (.inl f1); omega
          | some k =>
            have := C1 k f2; have := D1 k f2
            by_cases c3 : k ≤ v + a.add + b.add
            · have := C3 (.inr ⟨k, f2, c3⟩) (.inl f1); have := D3 (.inr ⟨k, f2, by omega⟩) (.inl f1); omega
            · omega
        | some i =>
          have := C2 i f1; have := D2 i f1
          cases f2 : b.low with
          | none =>
            by_cases c3 : v + a.add + b.add ≤ i
            · have := C3 (.inl f2) (.inr ⟨i, f1, c3⟩)
              by_cases c4 : j + b.add ≤ i
              · have := D3 (.inl f2) (.inr ⟨i, f1, c4⟩); omega
              · omega
            · omega
          | some k =>
            have := C1 k f2; have := D1 k f2
            by_cases c3 : v + a.add + b.add ≤ i
            · by_cases c5 : k ≤ v + a.add + b.add
              · have := C3 (.inr ⟨k, f2, c5⟩) (.inr ⟨i, f1, c3⟩)
                by_cases c4 : j + b.add ≤ i
                · have := D3 (.inr ⟨k, f2, by omega⟩) (.inr ⟨i, f1, c4⟩); omega
                · omega
              · omega
            · omega
  unfold beh
  refine whole_ap (fun l hl => ?_) (fun h hh => ?_) P3 P4 (fun h1 h2 => ?_)
  · unfold endBeh at hl
    cases e : a.low with
    | none => rw [e] at hl; exact (B1 l hl).1
    | some j => rw [e] at hl; cases hl; exact ap_mono b (A1 j e).1
  · unfold endBeh at hh
    cases e : a.high with
    | none => rw [e] at hh; exact (B2 h hh).1
    | some j => rw [e] at hh; cases hh; exact ap_mono b (A2 j e).1
  · -- between the ends both add
    by_cases s1 : ∃ l, endBeh b a.low b.low = some l ∧ v + (a.add + b.add) ≤ l
    · obtain ⟨l, s1, s2⟩ := s1
      rw [P3 l s1 s2]
      rcases h1 with h1 | ⟨l', h1, h4⟩
      · rw [s1] at h1; cases h1
      · rw [s1] at h1; cases h1; omega
    by_cases s2 : ∃ l, endBeh b a.high b.high = some l ∧ l ≤ v + (a.add + b.add)
    · obtain ⟨l, s2, s3⟩ := s2
      rw [P4 l s2 s3]
      rcases h2 with h2 | ⟨l', h2, h4⟩
      · rw [s2] at h2; cases h2
      · rw [s2] at h2; cases h2; omega
    have h1s : ∀ l, endBeh b a.low b.low = some l → l < v + (a.add + b.add) := fun l hl => Int.not_le.mp fun z => s1 ⟨l, hl, z⟩
    have h2s : ∀ l, endBeh b a.high b.high = some l → v + (a.add + b.add) < l := fun l hl => Int.not_le.mp fun z => s2 ⟨l, hl, z⟩
    have a1 : a.low = none ∨ ∃ l, a.low = some l ∧ l ≤ v + a.add := by
      cases e : a.low with
      | none => exact .inl rfl
      | some j =>
        right
        refine ⟨j, rfl, ?_⟩
        rcases h1 with h1 | ⟨l, h1, h4⟩
        · unfold endBeh at h1; rw [e] at h1; cases h1
        have st := h1s l h1
        unfold endBeh at h1; rw [e] at h1; cases h1
        by_cases c : j ≤ v + a.add
        · exact c
        obtain ⟨D1, D2, D3⟩ := ap_cases b hb j
        exfalso
        cases f2 : b.high with
        | none =>
          cases f1 : b.low with
          | none => have := D3 (.inl f1) (.inl f2); omega
          | some i => have := D1 i f1; by_cases c4 : i ≤ j + b.add; (have := D3 (.inr ⟨i, f1, c4⟩) (.inl f2); omega); omega
        | some k =>
          have := D2 k f2
          by_cases c5 : j + b.add ≤ k
          · cases f1 : b.low with
            | none => have := D3 (.inl f1) (.inr ⟨k, f2, c5⟩); omega
            | some i => have := D1 i f1; by_cases c4 : i ≤ j + b.add; (have := D3 (.inr ⟨i, f1, c4⟩) (.inr ⟨k, f2, c5⟩); omega); omega
          · have e5 : b.ap j = k := this.2 (by omega)
            -- the upper end is met: then high of both is k
            rcases h2 with h2 | ⟨h, h2, h6⟩
            · unfold endBeh at h2; cases e7 : a.high with
              | none => rw [e7] at h2; rw [f2] at h2; cases h2
              | some m => rw [e7] at h2; cases h2
            · unfold endBeh at h2; cases e7 : a.high with
              | none => rw [e7] at h2; rw [f2] at h2; cases h2; omega
              | some m =>
                rw [e7] at h2; cases h2
                have o := ha j m e e7
                have q1 := ap_mono b (show j ≤ m by omega)
                have q2 := ((ap_cases b hb m).2.1 k f2).1
                omega
    have a2 : a.high = none ∨ ∃ l, a.high = some l ∧ v + a.add ≤ l := by
      cases e : a.high with
      | none => exact .inl rfl
      | some j =>
        right
        refine ⟨j, rfl, ?_⟩
        rcases h2 with h2 | ⟨l, h2, h4⟩
        · unfold endBeh at h2; rw [e] at h2; cases h2
        have st := h2s l h2
        unfold endBeh at h2; rw [e] at h2; cases h2
        by_cases c : v + a.add ≤ j
        · exact c
        obtain ⟨D1, D2, D3⟩ := ap_cases b hb j
        exfalso
        cases f2 : b.low with
        | none =>
          cases f1 : b.high with
          | none => have := D3 (.inl f2) (.inl f1); omega
          | some i => have := D2 i f1; by_cases c4 : j + b.add ≤ i; (have := D3 (.inl f2) (.inr ⟨i, f1, c4⟩); omega); omega
        | some k =>
          have := D1 k f2
          by_cases c5 : k ≤ j + b.add
          · cases f1 : b.high with
            | none => have := D3 (.inr ⟨k, f2, c5⟩) (.inl f1); omega
            | some i => have := D2 i f1; by_cases c4 : j + b.add ≤ i; (have := D3 (.inr ⟨k, f2, c5⟩) (.inr ⟨i, f1, c4⟩); omega); omega
          · have e5 : b.ap j = k := this.2 (by omega)
            rcases h1 with h1 | ⟨h, h1, h6⟩
            · unfold endBeh at h1; cases e7 : a.low with
              | none => rw [e7] at h1; rw [f2] at h1; cases h1
              | some m => rw [e7] at h1; cases h1
            · unfold endBeh at h1; cases e7 : a.low with
              | none => rw [e7] at h1; rw [f2] at h1; cases h1; omega
              | some m =>
                rw [e7] at h1; cases h1
                have o := ha m j e7 e
                have q1 := ap_mono b (show m ≤ j by omega)
                have q2 := ((ap_cases b hb m).1 k f2).1
                omega
    have ea := A3 a1 a2
    rw [ea] at B1 B2 B3 ⊢
    have b1 : b.low = none ∨ ∃ l, b.low = some l ∧ l ≤ v + a.add + b.add := by
      cases f : b.low with
      | none => exact .inl rfl
      | some i =>
        refine .inr ⟨i, rfl, ?_⟩
        rcases h1 with h1 | ⟨l, h1, h4⟩
        · unfold endBeh at h1; cases e7 : a.low with
          | none => rw [e7] at h1; rw [f] at h1; cases h1
          | some m => rw [e7] at h1; cases h1
        · unfold endBeh at h1; cases e7 : a.low with
          | none => rw [e7] at h1; rw [f] at h1; cases h1; omega
          | some m => rw [e7] at h1; cases h1; have := ((ap_cases b hb m).1 i f).1; omega
    have b2 : b.high = none ∨ ∃ l, b.high = some l ∧ v + a.add + b.add ≤ l := by
      cases f : b.high with
      | none => exact .inl rfl
      | some i =>
        refine .inr ⟨i, rfl, ?_⟩
        rcases h2 with h2 | ⟨l, h2, h4⟩
        · unfold endBeh at h2; cases e7 : a.high with
          | none => rw [e7] at h2; rw [f] at h2; cases h2
          | some m => rw [e7] at h2; cases h2
        · unfold endBeh at h2; cases e7 : a.high with
          | none => rw [e7] at h2; rw [f] at h2; cases h2; omega
          | some m => rw [e7] at h2; cases h2; have := ((ap_cases b hb m).2.1 i f).1; omega
    rw [B3 b1 b2]; omega
theorem beh_in {a b : Dd} {x y : Int} (ha : a.In x) (hb : b.In y) (h0 : 0 ≤ x) (h1 : 0 ≤ y) : (beh a b).In (y + x) := by
  obtain ⟨a1, a2, a3, a4⟩ := ha
  have hb' := hb
  obtain ⟨b1, b2, b3, b4⟩ := hb
  refine ⟨?_, ?_, fun l hl => ?_, fun l hl => ?_⟩
  · unfold beh; rw [wholeD_add]; split <;> omega
  · unfold beh; rw [wholeD_add]; split <;> omega
  · unfold beh at hl; rw [wholeD_low] at hl; unfold endBeh at hl
    cases e : a.low with
    | none => rw [e] at hl; have := b3 l hl; omega
    | some j => rw [e] at hl; cases hl; exact ap_in hb' (a3 j e).1 (a3 j e).2 h0
  · unfold beh at hl; rw [wholeD_high] at hl; unfold endBeh at hl
    cases e : a.high with
    | none => rw [e] at hl; have := b4 l hl; omega
    | some j => rw [e] at hl; cases hl; exact ap_in hb' (a4 j e).1 (a4 j e).2 h0
/-- far out a deed shows its ends -/
theorem far_low {d : Dd} {b F : Int} (ok : d.Ok) (i : d.In b) (hF : 3 * b + 2 ≤ F) (h0 : 0 ≤ b) : (if d.ap (-F - 1) = d.ap (-F) then some (d.ap (-F)) else none) = d.low := by
  obtain ⟨i1, i2, i3, i4⟩ := i
  cases e : d.low with
  | some l =>
    have := i3 l e
    rw [ap_low ok e (show -F - 1 + d.add ≤ l by omega), ap_low ok e (show -F + d.add ≤ l by omega), if_pos rfl]
  | none =>
    have k : ∀ v : Int, v ≤ -F → d.ap v = v + d.add := fun v hv => by
      refine (ap_cases d ok v).2.2 (.inl e) ?_
      cases f : d.high with
      | none => exact .inl rfl
      | some h => have := i4 h f; exact .inr ⟨h, rfl, by omega⟩
    rw [k _ (by omega), k _ (by omega), if_neg (by omega)]
theorem far_high {d : Dd} {b F : Int} (ok : d.Ok) (i : d.In b) (hF : 3 * b + 2 ≤ F) (h0 : 0 ≤ b) : (if d.ap F = d.ap (F + 1) then some (d.ap F) else none) = d.high := by
  obtain ⟨i1, i2, i3, i4⟩ := i
  cases e : d.high with
  | some l =>
    have := i4 l e
    rw [ap_high ok e (show l ≤ F + 1 + d.add by omega), ap_high ok e (show l ≤ F + d.add by omega), if_pos rfl]
  | none =>
    have k : ∀ v : Int, F ≤ v → d.ap v = v + d.add := fun v hv => by
      refine (ap_cases d ok v).2.2 ?_ (.inl e)
      cases f : d.low with
      | none => exact .inl rfl
      | some h => have := i3 h f; exact .inr ⟨h, rfl, by omega⟩
    rw [k _ (by omega), k _ (by omega), if_neg (by omega)]
theorem bound_of (d : Dd) : ∃ b, 0 ≤ b ∧ d.In b := by
  obtain ⟨a, l, h⟩ := d
  refine ⟨a.natAbs + (l.getD 0).natAbs + (h.getD 0).natAbs, by omega, in_mk (by omega) (by omega) (fun x hx => ?_) fun x hx => ?_⟩
  · cases hx; simp only [Option.getD_some]; omega
  · cases hx; simp only [Option.getD_some]; omega
theorem In.le {d : Dd} {a b : Int} (h : d.In a) (e : a ≤ b) : d.In b := ⟨by have := h.1; omega, by have := h.2.1; omega, fun l hl => by have := h.2.2.1 l hl; omega, fun l hl => by have := h.2.2.2 l hl; omega⟩
/-- there is just one deed that makes the same of all -/
theorem ap_ext {d e : Dd} (hd : d.Ok) (he : e.Ok) (h : ∀ v, d.ap v = e.ap v) : d = e := by
  obtain ⟨b, b0, hb⟩ := bound_of d
  obtain ⟨c, c0, hc⟩ := bound_of e
  have l1 := far_low (F := 3 * (b + c) + 2) hd (In.le hb (show b ≤ b + c by omega)) (by omega) (by omega)
  have l2 := far_low (F := 3 * (b + c) + 2) he (In.le hc (show c ≤ b + c by omega)) (by omega) (by omega)
  have h1 := far_high (F := 3 * (b + c) + 2) hd (In.le hb (show b ≤ b + c by omega)) (by omega) (by omega)
  have h2 := far_high (F := 3 * (b + c) + 2) he (In.le hc (show c ≤ b + c by omega)) (by omega) (by omega)
  rw [h, h, l2] at l1
  rw [h, h, h2] at h1
  have ea : d.add = e.add := by
    cases e1 : d.low with
    | none =>
      cases e2 : d.high with
      | none =>
        have := h 0
        rw [ap_nn d 0 e1 e2, ap_nn e 0 (l1.trans e1) (h1.trans e2)] at this
        omega
      | some k =>
        have := h (k - 1 - b - c)
        have q1 := hb.1; have q2 := hb.2.1; have q3 := hc.1; have q4 := hc.2.1
        rw [ap_ns d _ k e1 e2, ap_ns e _ k (l1.trans e1) (h1.trans e2), if_pos (by omega), if_pos (by omega)] at this
        omega
    | some l =>
      cases e2 : d.high with
      | none =>
        have := h (l + 1 + b + c)
        have q1 := hb.1; have q2 := hb.2.1; have q3 := hc.1; have q4 := hc.2.1
        rw [ap_sn d _ l e1 e2, ap_sn e _ l (l1.trans e1) (h1.trans e2), if_pos (by omega), if_pos (by omega)] at this
        omega
      | some k =>
        have o1 := hd l k e1 e2
        have o2 := he l k (l1.trans e1) (h1.trans e2)
        by_cases c1 : l = k
        · omega
        · have g1 := h (l - d.add)
          have g2 := h (l - d.add + 1)
          obtain ⟨C1, C2, C3⟩ := ap_cases e he (l - d.add)
          obtain ⟨D1, D2, D3⟩ := ap_cases e he (l - d.add + 1)
          rw [ap_low hd e1 (by omega)] at g1
          rw [(ap_cases d hd (l - d.add + 1)).2.2 (.inr ⟨l, e1, by omega⟩) (.inr ⟨k, e2, by omega⟩)] at g2
          have := C1 l (l1.trans e1); have := C2 k (h1.trans e2); have := D1 l (l1.trans e1); have := D2 k (h1.trans e2)
          by_cases c2 : l ≤ l - d.add + e.add
          · by_cases c3 : l - d.add + e.add ≤ k
            · have := C3 (.inr ⟨l, l1.trans e1, c2⟩) (.inr ⟨k, h1.trans e2, c3⟩); omega
            · omega
          · by_cases c3 : l ≤ l - d.add + 1 + e.add
            · have := D3 (.inr ⟨l, l1.trans e1, c3⟩) (.inr ⟨k, h1.trans e2, by omega⟩); omega
            · omega
  obtain ⟨a1, a2, a3⟩ := d
  obtain ⟨b1, b2, b3⟩ := e
  cases ea; cases l1; cases h1
  rfl
theorem beh_assoc {a b c : Dd} (ha : a.Ok) (hb : b.Ok) (hc : c.Ok) : beh (beh a b) c = beh a (beh b c) :=
  ap_ext (beh_ok (beh_ok ha hb) hc) (beh_ok ha (beh_ok hb hc)) fun v => by rw [beh_ap (beh_ok ha hb) hc, beh_ap ha hb, beh_ap ha (beh_ok hb hc), beh_ap hb hc]
theorem look_ap (v : Int) : look.ap v = v := by show v + 0 = v; omega
theorem beh_look {a : Dd} (ha : a.Ok) : beh a look = a := ap_ext (beh_ok ha look_ok) ha fun v => by rw [beh_ap ha look_ok, look_ap]
theorem look_beh {a : Dd} (ha : a.Ok) : beh look a = a := ap_ext (beh_ok look_ok ha) ha fun v => by rw [beh_ap look_ok ha, look_ap]
/-! ### a deed as data -/
def po : Option Int → PyData
  | none => .none
  | some i => .int i
def pd (d : Dd) : PyData := .tuple [.int d.add, po d.low, po d.high]
theorem po_dp {K : PySem.W.Frag} {H : Hp} (o : Option Int) : Dp K H (oV o) (po o) := by
  cases o with
  | none => exact .non
  | some i => exact .int i
theorem pd_dp {K : PySem.W.Frag} {H : Hp} {a : Addr} {d : Dd} (h : SqT K H a d.vs) : Dp K H (.ref a) (pd d) := .tup h (.cons (.int _) (.cons (po_dp _) (.cons (po_dp _) .nil)))
theorem pd_sh (d : Dd) : SeqAt.shaped (pd d) = true := by
  obtain ⟨a, l, h⟩ := d
  cases l <;> cases h <;> rfl
theorem pd_refl (d : Dd) : PyData.eqv (pd d) (pd d) = true := SeqAt.eqv_refl _ (SeqAt.canLay_of_shaped (pd_sh d))
/-- a new tuple with a deed -/
def NewD (H : Hp) (Q : VK) (d : Dd) : Prop := ∀ (a : Addr) (H' : Hp), Same H H' → H a = none → H' a = some (.tup d.vs) → Q (.ref a) H'
abbrev Fx : Int := 10 ^ Int.toNat 64 * 10 ^ Int.toNat 26
theorem Fx_eq : Fx = 10 ^ 90 := by decide
theorem take_snoc {α : Type} {l : List α} {i : Nat} {x : α} (h : l[i]? = some x) : l.take (i + 1) = l.take i ++ [x] := by rw [List.take_succ, h] <;> rfl
/-- a deed's tuple that was made here -/
def Da (H : Hp) (a : Addr) (d : Dd) : Prop := H a = some (.tup d.vs) ∧ d.In (10 ^ 80) ∧ d.Ok
theorem Da.arg {K : PySem.W.Frag} {H : Hp} {a : Addr} {d : Dd} (h : Da H a d) : DeedArg K H a d := ⟨.base (.tup h.1), SqT.of h.1, h.2.2⟩
theorem Da.same {H H' : Hp} {a : Addr} {d : Dd} (e : Same H H') (h : Da H a d) : Da H' a d := ⟨e _ _ h.1, h.2⟩
theorem Da.sq {K : PySem.W.Frag} {H : Hp} {a : Addr} {d : Dd} (h : Da H a d) : SqT K H a d.vs := SqT.of h.1
theorem Da.dp {K : PySem.W.Frag} {H : Hp} {a : Addr} {d : Dd} (h : Da H a d) : Dp K H (.ref a) (pd d) := pd_dp h.sq
theorem ne_pd {d : Dd} : (!PyData.eqv (pd d) (pd d)) = false := by rw [pd_refl] <;> rfl
theorem addT {x : Int} {k : Bool} {p : Prop} [Decidable p] (h : k = true ↔ ¬ p) : x * (if k = true then 1 else 0) = if p then 0 else x := by
  by_cases c : p
  · rw [if_pos c, if_neg (fun z => h.mp z c)]; exact Int.mul_zero _
  · rw [if_neg c, if_pos (h.mpr c)]; exact Int.mul_one _
/-! ### a deed so many times -/
def agL (d : Dd) (f : Int) : Option Int := match d.low with
  | none => none
  | some l => some (if f > 0 then (match d.high with | none => l + f | some h => if l + f < h then l + f else h) else l)
def agH (d : Dd) (f : Int) : Option Int := match d.high with
  | none => none
  | some h => some (if f < 0 then (match d.low with | none => h + f | some l => if h + f > l then h + f else l) else h)
theorem agL_n {d : Dd} {f : Int} (h : d.low = none) : agL d f = none := by unfold agL; rw [h] <;> rfl
theorem agL_z {d : Dd} {f l : Int} (h : d.low = some l) (c : ¬ f > 0) : agL d f = some l := by unfold agL; rw [h]; dsimp only; rw [if_neg c]
theorem agL_p {d : Dd} {f l : Int} (h : d.low = some l) (g : d.high = none) (c : f > 0) : agL d f = some (l + f) := by unfold agL; rw [h, g]; dsimp only; rw [if_pos c]
theorem agL_q {d : Dd} {f l k : Int} (h : d.low = some l) (g : d.high = some k) (c : f > 0) : agL d f = some (if l + f < k then l + f else k) := by unfold agL; rw [h, g]; dsimp only; rw [if_pos c]
theorem agH_n {d : Dd} {f : Int} (h : d.high = none) : agH d f = none := by unfold agH; rw [h] <;> rfl
theorem agH_z {d : Dd} {f l : Int} (h : d.high = some l) (c : ¬ f < 0) : agH d f = some l := by unfold agH; rw [h]; dsimp only; rw [if_neg c]
theorem agH_p {d : Dd} {f l : Int} (h : d.high = some l) (g : d.low = none) (c : f < 0) : agH d f = some (l + f) := by unfold agH; rw [h, g]; dsimp only; rw [if_pos c]
theorem agH_q {d : Dd} {f l k : Int} (h : d.high = some l) (g : d.low = some k) (c : f < 0) : agH d f = some (if l + f > k then l + f else k) := by unfold agH; rw [h, g]; dsimp only; rw [if_pos c]
def agn (d : Dd) (n : Int) : Dd := wholeD (n * d.add) (agL d ((n - 1) * d.add)) (agH d ((n - 1) * d.add))
def Sg (d : Dd) (f : Int) : Prop := (0 < d.add → 0 ≤ f) ∧ (d.add < 0 → f ≤ 0) ∧ (d.add = 0 → f = 0)
theorem sg_mul (d : Dd) {n : Int} (h : 0 ≤ n) : Sg d (n * d.add) := by
  refine ⟨fun a => Int.mul_nonneg h (by omega), fun a => ?_, fun a => by rw [a]; exact Int.mul_zero _⟩
  have := Int.mul_nonneg h (show 0 ≤ -d.add by omega)
  rw [Int.mul_neg] at this
  omega
theorem agL_next {d : Dd} (ok : d.Ok) {f : Int} (s : Sg d f) : endBeh d (agL d f) d.low = agL d (f + d.add) := by
  obtain ⟨s1, s2, s3⟩ := s
  cases e1 : d.low with
  | none => unfold agL; rw [e1] <;> rfl
  | some l =>
    unfold agL endBeh
    rw [e1]
    cases e2 : d.high with
    | none =>
      show some (d.ap (if f > 0 then l + f else l)) = some (if f + d.add > 0 then l + (f + d.add) else l)
      rw [ap_sn d _ l e1 e2]
      congr 1
      by_cases c : f > 0
      · rw [if_pos c]
        by_cases c2 : f + d.add > 0
        · rw [if_pos c2, if_pos (by omega)]; omega
        · omega
      · rw [if_neg c]
        by_cases c2 : f + d.add > 0
        · rw [if_pos c2, if_pos (by omega)]; omega
        · rw [if_neg c2, if_neg (by omega)]
    | some h =>
      have o := ok l h e1 e2
      show some (d.ap (if f > 0 then (if l + f < h then l + f else h) else l)) = some (if f + d.add > 0 then (if l + (f + d.add) < h then l + (f + d.add) else h) else l)
      rw [ap_ss d _ l h e1 e2]
      congr 1
      by_cases c : f > 0
      · rw [if_pos c, if_pos (show f + d.add > 0 by omega)]
        by_cases c2 : l + f < h
        · rw [if_pos c2, if_pos (show l + f + d.add > l by omega)]
          by_cases c3 : l + f + d.add < h
          · rw [if_pos c3, if_pos (by omega)]; omega
          · rw [if_neg c3, if_neg (by omega)]
        · rw [if_neg c2, if_neg (show ¬ l + (f + d.add) < h by omega)]
          by_cases c4 : h + d.add > l
          · rw [if_pos c4, if_neg (by omega)]
          · rw [if_neg c4]; split <;> omega
      · rw [if_neg c]
        by_cases c3 : f + d.add > 0
        · rw [if_pos c3, if_pos (show l + d.add > l by omega)]
          by_cases c2 : l + d.add < h
          · rw [if_pos c2, if_pos (by omega)]; omega
          · rw [if_neg c2, if_neg (by omega)]
        · rw [if_neg c3, if_neg (show ¬ l + d.add > l by omega)]
          split <;> omega
theorem agH_next {d : Dd} (ok : d.Ok) {f : Int} (s : Sg d f) : endBeh d (agH d f) d.high = agH d (f + d.add) := by
  obtain ⟨s1, s2, s3⟩ := s
  cases e2 : d.high with
  | none => unfold agH; rw [e2] <;> rfl
  | some h =>
    unfold agH endBeh
    rw [e2]
    cases e1 : d.low with
    | none =>
      show some (d.ap (if f < 0 then h + f else h)) = some (if f + d.add < 0 then h + (f + d.add) else h)
      rw [ap_ns d _ h e1 e2]
      congr 1
      by_cases c : f < 0
      · rw [if_pos c]
        by_cases c2 : f + d.add < 0
        · rw [if_pos c2, if_pos (by omega)]; omega
        · omega
      · rw [if_neg c]
        by_cases c2 : f + d.add < 0
        · rw [if_pos c2, if_pos (by omega)]; omega
        · rw [if_neg c2, if_neg (by omega)]
    | some l =>
      have o := ok l h e1 e2
      show some (d.ap (if f < 0 then (if h + f > l then h + f else l) else h)) = some (if f + d.add < 0 then (if h + (f + d.add) > l then h + (f + d.add) else l) else h)
      rw [ap_ss d _ l h e1 e2]
      congr 1
      by_cases c : f < 0
      · rw [if_pos c, if_pos (show f + d.add < 0 by omega)]
        by_cases c2 : h + f > l
        · rw [if_pos c2]
          by_cases c3 : h + f + d.add > l
          · rw [if_pos c3, if_pos (show h + f + d.add < h by omega), if_pos (by omega)]; omega
          · rw [if_neg c3, if_neg (show ¬ h + (f + d.add) > l by omega)]; split <;> omega
        · rw [if_neg c2, if_neg (show ¬ h + (f + d.add) > l by omega), if_neg (show ¬ l + d.add > l by omega)]
          split <;> omega
      · rw [if_neg c]
        by_cases c3 : f + d.add < 0
        · rw [if_pos c3]
          by_cases c2 : h + d.add > l
          · rw [if_pos c2, if_pos (by omega), if_pos (by omega)]; omega
          · rw [if_neg c2, if_neg (show ¬ h + (f + d.add) > l by omega)]; split <;> omega
        · rw [if_neg c3]
          by_cases c4 : h + d.add > l
          · rw [if_pos c4, if_neg (by omega)]
          · rw [if_neg c4]; split <;> omega
theorem agL_zero (d : Dd) : agL d 0 = d.low := by unfold agL; cases d.low <;> rfl
theorem agH_zero (d : Dd) : agH d 0 = d.high := by unfold agH; cases d.high <;> rfl
theorem wholeD_self {d : Dd} (ok : d.Ok) : wholeD d.add d.low d.high = d := by
  unfold wholeD
  by_cases c : d.low ≠ none ∧ d.low = d.high
  · rw [if_pos c]
    cases e : d.low with
    | none => exact absurd e c.1
    | some l =>
      have := ok l l e (c.2.symm.trans e)
      obtain ⟨a, x, y⟩ := d
      have h0 : a = 0 := by
        have : (⟨a, x, y⟩ : Dd).add = 0 := by omega
        exact this
      subst h0
      have e' : x = some l := e
      subst e'
      rfl
  · rw [if_neg c]
theorem agn_one {d : Dd} (ok : d.Ok) : agn d 1 = d := by
  unfold agn
  rw [show ((1 : Int) - 1) * d.add = 0 from Int.zero_mul _, agL_zero, agH_zero, Int.one_mul]
  exact wholeD_self ok
theorem wholeD_eq {a b : Int} {L H : Option Int} (h : ¬ (L ≠ none ∧ L = H) → a = b) : wholeD a L H = wholeD b L H := by
  unfold wholeD
  by_cases c : L ≠ none ∧ L = H
  · rw [if_pos c, if_pos c]
  · rw [if_neg c, if_neg c, h c]
theorem agn_succ {d : Dd} (ok : d.Ok) {n : Int} (h : 1 ≤ n) : agn d (n + 1) = beh (agn d n) d := by
  have s : Sg d ((n - 1) * d.add) := sg_mul d (by omega)
  have ef : (n + 1 - 1) * d.add = (n - 1) * d.add + d.add := by
    rw [Int.add_sub_cancel, Int.sub_mul, Int.one_mul]; omega
  unfold beh
  rw [show (agn d n).low = agL d ((n - 1) * d.add) from wholeD_low, show (agn d n).high = agH d ((n - 1) * d.add) from wholeD_high, agL_next ok s, agH_next ok s, ← ef]
  show wholeD ((n + 1) * d.add) _ _ = _
  refine wholeD_eq fun c => ?_
  have c2 : ¬ (agL d ((n - 1) * d.add) ≠ none ∧ agL d ((n - 1) * d.add) = agH d ((n - 1) * d.add)) := by
    rintro ⟨z1, z2⟩
    refine c ⟨?_, ?_⟩
    · rw [ef, ← agL_next ok s]
      cases e : agL d ((n - 1) * d.add) with
      | none => exact absurd e z1
      | some l => exact Option.some_ne_none _
    · rw [ef, ← agL_next ok s, ← agH_next ok s, ← z2]
      cases e : agL d ((n - 1) * d.add) with
      | none => exact absurd e z1
      | some l => rfl
  rw [show (agn d n).add = _ from wholeD_add, if_neg c2, Int.add_mul, Int.one_mul]
def pw (d : Dd) : Nat → Dd
  | 0 => look
  | n + 1 => beh (pw d n) d
theorem pw_ok {d : Dd} (ok : d.Ok) : ∀ n, (pw d n).Ok
  | 0 => look_ok
  | n + 1 => beh_ok (pw_ok ok n) ok
theorem pw_one {d : Dd} (ok : d.Ok) : pw d 1 = d := look_beh ok
theorem agn_pw {d : Dd} (ok : d.Ok) : ∀ n : Nat, agn d ((n : Int) + 1) = pw d (n + 1)
  | 0 => by rw [pw_one ok]; exact agn_one ok
  | n + 1 => by
    rw [show ((n + 1 : Nat) : Int) + 1 = ((n : Int) + 1) + 1 by omega, agn_succ ok (by omega), agn_pw ok n] <;> rfl
theorem pw_add {d : Dd} (ok : d.Ok) (m : Nat) : ∀ n, pw d (m + n) = beh (pw d m) (pw d n)
  | 0 => (beh_look (pw_ok ok m)).symm
  | n + 1 => by
    show beh (pw d (m + n)) d = beh (pw d m) (beh (pw d n) d)
    rw [pw_add ok m n, beh_assoc (pw_ok ok m) (pw_ok ok n) ok]
theorem pw_mul {d : Dd} (ok : d.Ok) (m : Nat) : ∀ n, pw (pw d m) n = pw d (m * n)
  | 0 => rfl
  | n + 1 => by
    show beh (pw (pw d m) n) (pw d m) = _
    rw [pw_mul ok m n, Nat.mul_succ, pw_add ok]
theorem pw_in {d : Dd} {b : Int} (i : d.In b) (h : 0 ≤ b) : ∀ n : Nat, (pw d n).In (n * b)
  | 0 => by
    refine look_in ?_
    show (0 : Int) ≤ (0 : Nat) * b
    rw [show ((0 : Nat) : Int) = 0 from rfl, Int.zero_mul]
    exact Int.le_refl 0
  | n + 1 => by
    have := beh_in (pw_in i h n) i (Int.mul_nonneg (by omega) h) h
    rw [show ((n + 1 : Nat) : Int) * b = b + n * b by rw [Int.natCast_add, Int.add_mul]; omega]
    exact this
/-! ### where two deeds part -/
theorem seg_right {d : Dd} (ok : d.Ok) {p v : Int} (hpv : p < v) (hl : ∀ l, d.low = some l → ¬ (p < l - d.add ∧ l - d.add < v)) (hh : ∀ l, d.high = some l → ¬ (p < l - d.add ∧ l - d.add < v)) :
    (d.ap (p + 1) = d.ap p ∧ d.ap v = d.ap p) ∨ (d.ap (p + 1) = d.ap p + 1 ∧ d.ap v = d.ap p + (v - p)) := by
  cases e1 : d.low with
  | none =>
    cases e2 : d.high with
    | none => right; rw [ap_nn d _ e1 e2, ap_nn d _ e1 e2, ap_nn d _ e1 e2]; omega
    | some h =>
      have := hh h e2
      rw [ap_ns d _ h e1 e2, ap_ns d _ h e1 e2, ap_ns d _ h e1 e2]
      by_cases c : p + d.add < h
      · right
        rw [if_pos c]
        constructor
        · split <;> omega
        · split <;> omega
      · left
        rw [if_neg c, if_neg (by omega), if_neg (by omega)]
        exact ⟨rfl, rfl⟩
  | some l =>
    have := hl l e1
    cases e2 : d.high with
    | none =>
      rw [ap_sn d _ l e1 e2, ap_sn d _ l e1 e2, ap_sn d _ l e1 e2]
      by_cases c : l ≤ p + d.add
      · right
        have e : (if p + d.add > l then p + d.add else l) = p + d.add := by split <;> omega
        rw [e, if_pos (by omega), if_pos (by omega)]
        omega
      · left
        rw [if_neg (show ¬ p + d.add > l by omega), if_neg (show ¬ p + 1 + d.add > l by omega), if_neg (show ¬ v + d.add > l by omega)]
        exact ⟨rfl, rfl⟩
    | some h =>
      have := hh h e2
      have o := ok l h e1 e2
      have A := ap_cases d ok p
      have B := ap_cases d ok (p + 1)
      have C := ap_cases d ok v
      have A1 := A.1 l e1; have A2 := A.2.1 h e2
      have B1 := B.1 l e1; have B2 := B.2.1 h e2
      have C1 := C.1 l e1; have C2 := C.2.1 h e2
      by_cases c : l ≤ p + d.add
      · have A3 := A.2.2 (.inr ⟨l, e1, c⟩)
        by_cases c2 : p + d.add < h
        · have A4 := A3 (.inr ⟨h, e2, by omega⟩)
          have B4 := B.2.2 (.inr ⟨l, e1, by omega⟩) (.inr ⟨h, e2, by omega⟩)
          have C4 := C.2.2 (.inr ⟨l, e1, by omega⟩) (.inr ⟨h, e2, by omega⟩)
          right; omega
        · left; omega
      · left; omega
theorem seg_left {d : Dd} (ok : d.Ok) {p v : Int} (hpv : v < p) (hl : ∀ l, d.low = some l → ¬ (v < l - d.add ∧ l - d.add < p)) (hh : ∀ l, d.high = some l → ¬ (v < l - d.add ∧ l - d.add < p)) :
    (d.ap (p - 1) = d.ap p ∧ d.ap v = d.ap p) ∨ (d.ap (p - 1) = d.ap p - 1 ∧ d.ap v = d.ap p - (p - v)) := by
  cases e1 : d.low with
  | none =>
    cases e2 : d.high with
    | none => right; rw [ap_nn d _ e1 e2, ap_nn d _ e1 e2, ap_nn d _ e1 e2]; omega
    | some h =>
      have := hh h e2
      rw [ap_ns d _ h e1 e2, ap_ns d _ h e1 e2, ap_ns d _ h e1 e2]
      by_cases c : p + d.add ≤ h
      · right
        have e : (if p + d.add < h then p + d.add else h) = p + d.add := by split <;> omega
        rw [e, if_pos (by omega), if_pos (by omega)]
        omega
      · left
        rw [if_neg (show ¬ p + d.add < h by omega), if_neg (show ¬ p - 1 + d.add < h by omega), if_neg (show ¬ v + d.add < h by omega)]
        exact ⟨rfl, rfl⟩
  | some l =>
    have := hl l e1
    cases e2 : d.high with
    | none =>
      rw [ap_sn d _ l e1 e2, ap_sn d _ l e1 e2, ap_sn d _ l e1 e2]
      by_cases c : p + d.add > l
      · right
        rw [if_pos c]
        constructor
        · split <;> omega
        · split <;> omega
      · left
        rw [if_neg c, if_neg (by omega), if_neg (by omega)]
        exact ⟨rfl, rfl⟩
    | some h =>
      have := hh h e2
      have o := ok l h e1 e2
      have A := ap_cases d ok p
      have B := ap_cases d ok (p - 1)
      have C := ap_cases d ok v
      have A1 := A.1 l e1; have A2 := A.2.1 h e2
      have B1 := B.1 l e1; have B2 := B.2.1 h e2
      have C1 := C.1 l e1; have C2 := C.2.1 h e2
      by_cases c : p + d.add ≤ h
      · by_cases c2 : l < p + d.add
        · have A4 := A.2.2 (.inr ⟨l, e1, by omega⟩) (.inr ⟨h, e2, by omega⟩)
          have B4 := B.2.2 (.inr ⟨l, e1, by omega⟩) (.inr ⟨h, e2, by omega⟩)
          have C4 := C.2.2 (.inr ⟨l, e1, by omega⟩) (.inr ⟨h, e2, by omega⟩)
          right; omega
        · left; omega
      · left; omega
theorem greatest : ∀ (L : List Int) (v : Int), (∃ p, p ∈ L ∧ p ≤ v ∧ ∀ q ∈ L, q ≤ v → q ≤ p) ∨ ∀ q ∈ L, v < q
  | [], _ => .inr fun _ h => nomatch h
  | x :: r, v => by
    rcases greatest r v with ⟨p, h1, h2, h3⟩ | h
    · left
      by_cases c : x ≤ v ∧ p < x
      · exact ⟨x, List.mem_cons_self, c.1, fun q hq hv => by rcases List.mem_cons.mp hq with rfl | hq; exact Int.le_refl _; have := h3 q hq hv; omega⟩
      · exact ⟨p, List.mem_cons_of_mem _ h1, h2, fun q hq hv => by rcases List.mem_cons.mp hq with rfl | hq; omega; exact h3 q hq hv⟩
    · by_cases c : x ≤ v
      · exact .inl ⟨x, List.mem_cons_self, c, fun q hq hv => by rcases List.mem_cons.mp hq with rfl | hq; exact Int.le_refl _; have := h q hq; omega⟩
      · exact .inr fun q hq => by rcases List.mem_cons.mp hq with rfl | hq; omega; exact h q hq
theorem least : ∀ (L : List Int), L = [] ∨ ∃ p, p ∈ L ∧ ∀ q ∈ L, p ≤ q
  | [] => .inl rfl
  | x :: r => by
    right
    rcases least r with rfl | ⟨p, h1, h2⟩
    · exact ⟨x, List.mem_cons_self, fun q hq => by rcases List.mem_cons.mp hq with rfl | hq; exact Int.le_refl _; exact nomatch hq⟩
    · by_cases c : x ≤ p
      · exact ⟨x, List.mem_cons_self, fun q hq => by rcases List.mem_cons.mp hq with rfl | hq; exact Int.le_refl _; have := h2 q hq; omega⟩
      · exact ⟨p, List.mem_cons_of_mem _ h1, fun q hq => by rcases List.mem_cons.mp hq with rfl | hq; omega; exact h2 q hq⟩
def brkO (add : Int) : Option Int → List Int
  | none => []
  | some l => [l - add]
def brk (d : Dd) : List Int := brkO d.add d.low ++ brkO d.add d.high
theorem brk_low {d : Dd} {l : Int} (h : d.low = some l) : l - d.add ∈ brk d := by unfold brk; rw [h]; exact List.mem_append_left _ List.mem_cons_self
theorem brk_high {d : Dd} {l : Int} (h : d.high = some l) : l - d.add ∈ brk d := by unfold brk; rw [h]; exact List.mem_append_right _ List.mem_cons_self
theorem brk_agree {d e : Dd} (od : d.Ok) (oe : e.Ok) (h0 : d.ap 0 = e.ap 0) (h : ∀ p ∈ brk d ++ brk e, d.ap (p - 1) = e.ap (p - 1) ∧ d.ap p = e.ap p ∧ d.ap (p + 1) = e.ap (p + 1)) : d = e := by
  refine ap_ext od oe fun v => ?_
  rcases greatest (brk d ++ brk e) v with ⟨p, h1, h2, h3⟩ | h3
  · obtain ⟨g1, g2, g3⟩ := h p h1
    by_cases c : p = v
    · rw [← c]; exact g2
    · have R1 := seg_right od (show p < v by omega) (fun l hl z => by have := h3 _ (List.mem_append_left _ (brk_low hl)); omega) (fun l hl z => by have := h3 _ (List.mem_append_left _ (brk_high hl)); omega)
      have R2 := seg_right oe (show p < v by omega) (fun l hl z => by have := h3 _ (List.mem_append_right _ (brk_low hl)); omega) (fun l hl z => by have := h3 _ (List.mem_append_right _ (brk_high hl)); omega)
      omega
  · rcases least (brk d ++ brk e) with e0 | ⟨p, h1, h2⟩
    · have n1 : d.low = none := by cases q : d.low with | none => rfl | some l => have := List.mem_append_left (brk e) (brk_low q); rw [e0] at this; cases this
      have n2 : d.high = none := by cases q : d.high with | none => rfl | some l => have := List.mem_append_left (brk e) (brk_high q); rw [e0] at this; cases this
      have n3 : e.low = none := by cases q : e.low with | none => rfl | some l => have := List.mem_append_right (brk d) (brk_low q); rw [e0] at this; cases this
      have n4 : e.high = none := by cases q : e.high with | none => rfl | some l => have := List.mem_append_right (brk d) (brk_high q); rw [e0] at this; cases this
      rw [ap_nn d _ n1 n2, ap_nn e _ n3 n4] at h0 ⊢
      omega
    · obtain ⟨g1, g2, g3⟩ := h p h1
      have c := h3 p h1
      have R1 := seg_left od c (fun l hl z => by have := h2 _ (List.mem_append_left _ (brk_low hl)); omega) (fun l hl z => by have := h2 _ (List.mem_append_left _ (brk_high hl)); omega)
      have R2 := seg_left oe c (fun l hl z => by have := h2 _ (List.mem_append_right _ (brk_low hl)); omega) (fun l hl z => by have := h2 _ (List.mem_append_right _ (brk_high hl)); omega)
      omega
def cornO (add : Int) (o : Option Int) : List Int := match o with
  | none => []
  | some l => [l - add - 1, l - add, l - add + 1]
def corn (d : Dd) : List Int := cornO d.add d.low ++ cornO d.add d.high
theorem corn_of {d : Dd} {p : Int} (h : p ∈ brk d) : p - 1 ∈ corn d ∧ p ∈ corn d ∧ p + 1 ∈ corn d := by
  have key : ∀ o : Option Int, p ∈ brkO d.add o → p - 1 ∈ cornO d.add o ∧ p ∈ cornO d.add o ∧ p + 1 ∈ cornO d.add o := by
    intro o ho
    cases o with
    | none => cases ho
    | some l =>
      have e : p = l - d.add := by simpa [brkO] using ho
      subst e
      simp [cornO]
  rcases List.mem_append.mp h with h | h
  · obtain ⟨a, b, c⟩ := key _ h
    exact ⟨List.mem_append_left _ a, List.mem_append_left _ b, List.mem_append_left _ c⟩
  · obtain ⟨a, b, c⟩ := key _ h
    exact ⟨List.mem_append_right _ a, List.mem_append_right _ b, List.mem_append_right _ c⟩
theorem corn_agree {d e : Dd} (od : d.Ok) (oe : e.Ok) (h : ∀ v ∈ [0] ++ corn d ++ corn e, d.ap v = e.ap v) : d = e := by
  refine brk_agree od oe (h 0 (by simp)) fun p hp => ?_
  rcases List.mem_append.mp hp with hp | hp
  · obtain ⟨a, b, c⟩ := corn_of hp
    exact ⟨h _ (by simp [a]), h _ (by simp [b]), h _ (by simp [c])⟩
  · obtain ⟨a, b, c⟩ := corn_of hp
    exact ⟨h _ (by simp [a]), h _ (by simp [b]), h _ (by simp [c])⟩
theorem corn_len (d : Dd) : (corn d).length ≤ 6 := by
  unfold corn
  rw [List.length_append]
  have c3 : ∀ o : Option Int, (cornO d.add o).length ≤ 3 := fun o => by cases o <;> simp [cornO]
  have := c3 d.low; have := c3 d.high; omega
def Dq (K : PySem.W.Frag) (H : Hp) (a : Addr) (d : Dd) : Prop := TupAt K H a d.vs ∧ d.Ok
theorem Dq.arg {K : PySem.W.Frag} {H : Hp} {a : Addr} {d : Dd} (h : Dq K H a d) : DeedArg K H a d := ⟨h.1.ty, h.1.sq, h.2⟩
theorem Dq.same {K : PySem.W.Frag} {H H' : Hp} {a : Addr} {d : Dd} (e : Same H H') (h : Dq K H a d) : Dq K H' a d := ⟨h.1.same e, h.2⟩
theorem Dq.dp {K : PySem.W.Frag} {H : Hp} {a : Addr} {d : Dd} (h : Dq K H a d) : Dp K H (.ref a) (pd d) := pd_dp h.1.sq
theorem pw_in' {d : Dd} {b c : Int} (i : d.In b) (h : 0 ≤ b) {n m : Nat} (e : n ≤ m) (h2 : (m : Int) * b ≤ c) : (pw d n).In c := by
  refine In.le (pw_in i h n) (Int.le_trans (Int.mul_le_mul_of_nonneg_right (by omega) h) h2)
/-! ### spans -/
abbrev Span := Option (Option Int × Option Int)
def inL (o : Option Int) (v : Int) : Bool := match o with | none => true | some x => decide (x ≤ v)
def inH (o : Option Int) (v : Int) : Bool := match o with | none => true | some x => decide (v ≤ x)
def inS (s : Span) (v : Int) : Bool := match s with
  | none => false
  | some (l, h) => inL l v && inH h v
def SpOk (s : Span) : Prop := ∀ l h, s = some (some l, some h) → l ≤ h
def SpIn (b : Int) (s : Span) : Prop := ∀ l h, s = some (l, h) → (∀ x, l = some x → -b ≤ x ∧ x ≤ b) ∧ ∀ x, h = some x → -b ≤ x ∧ x ≤ b
def staysD (d : Dd) : Span := if d.add = 0 then some (d.low, d.high) else match (if d.add > 0 then d.high else d.low) with | none => none | some e => some (some e, some e)
theorem ap_eq {d : Dd} (ok : d.Ok) (v g : Int) : d.ap v = g ↔ ((∀ l, d.low = some l → l ≤ g ∧ (v + d.add ≤ l → g = l)) ∧ (∀ h, d.high = some h → g ≤ h ∧ (h ≤ v + d.add → g = h)) ∧
    ((d.low = none ∨ ∃ l, d.low = some l ∧ l ≤ v + d.add) → (d.high = none ∨ ∃ h, d.high = some h ∧ v + d.add ≤ h) → g = v + d.add)) := by
  constructor
  · rintro rfl; exact ap_cases d ok v
  · intro h
    have c := ap_cases d ok v
    cases e1 : d.low with
    | none =>
      cases e2 : d.high with
      | none => rw [c.2.2 (.inl e1) (.inl e2), h.2.2 (.inl e1) (.inl e2)]
      | some k =>
        by_cases q : v + d.add ≤ k
        · rw [c.2.2 (.inl e1) (.inr ⟨k, e2, q⟩), h.2.2 (.inl e1) (.inr ⟨k, e2, q⟩)]
        · rw [(c.2.1 k e2).2 (by omega), (h.2.1 k e2).2 (by omega)]
    | some l =>
      by_cases q1 : v + d.add ≤ l
      · rw [(c.1 l e1).2 q1, (h.1 l e1).2 q1]
      · cases e2 : d.high with
        | none => rw [c.2.2 (.inr ⟨l, e1, by omega⟩) (.inl e2), h.2.2 (.inr ⟨l, e1, by omega⟩) (.inl e2)]
        | some k =>
          by_cases q : v + d.add ≤ k
          · rw [c.2.2 (.inr ⟨l, e1, by omega⟩) (.inr ⟨k, e2, q⟩), h.2.2 (.inr ⟨l, e1, by omega⟩) (.inr ⟨k, e2, q⟩)]
          · rw [(c.2.1 k e2).2 (by omega), (h.2.1 k e2).2 (by omega)]
theorem inS_iff {l h : Option Int} {v : Int} : inS (some (l, h)) v = true ↔ (∀ x, l = some x → x ≤ v) ∧ ∀ x, h = some x → v ≤ x := by
  cases l <;> cases h <;> simp [inS, inL, inH]
theorem stays_in {d : Dd} (ok : d.Ok) (v : Int) : inS (staysD d) v = true ↔ d.ap v = v := by
  obtain ⟨c1, c2, c3⟩ := ap_cases d ok v
  unfold staysD
  by_cases h0 : d.add = 0
  · rw [if_pos h0, inS_iff]
    constructor
    · rintro ⟨h1, h2⟩
      have := c3 (by cases e : d.low with | none => exact .inl rfl | some l => exact .inr ⟨l, rfl, by have := h1 l e; omega⟩) (by cases e : d.high with | none => exact .inl rfl | some l => exact .inr ⟨l, rfl, by have := h2 l e; omega⟩)
      omega
    · intro h
      rw [h] at c1 c2
      exact ⟨fun x hx => (c1 x hx).1, fun x hx => (c2 x hx).1⟩
  · rw [if_neg h0]
    by_cases h1 : d.add > 0
    · rw [if_pos h1]
      cases e : d.high with
      | none =>
        dsimp only
        refine ⟨fun z => (nomatch z), fun h => ?_⟩
        exfalso
        cases e1 : d.low with
        | none => have := c3 (.inl e1) (.inl e); omega
        | some l =>
          have := c1 l e1
          by_cases q : l ≤ v + d.add
          · have := c3 (.inr ⟨l, e1, q⟩) (.inl e); omega
          · omega
      | some k =>
        dsimp only
        rw [inS_iff]
        have a := c2 k e
        constructor
        · rintro ⟨g1, g2⟩
          have := g1 k rfl; have := g2 k rfl
          have := a.2 (by omega); omega
        · intro h
          have : v = k := by
            by_cases q : k ≤ v + d.add
            · have := a.2 q; omega
            · exfalso
              cases e1 : d.low with
              | none => have := c3 (.inl e1) (.inr ⟨k, e, by omega⟩); omega
              | some l =>
                have := c1 l e1
                by_cases q2 : l ≤ v + d.add
                · have := c3 (.inr ⟨l, e1, q2⟩) (.inr ⟨k, e, by omega⟩); omega
                · omega
          exact ⟨fun x hx => by cases hx; omega, fun x hx => by cases hx; omega⟩
    · rw [if_neg h1]
      cases e : d.low with
      | none =>
        dsimp only
        refine ⟨fun z => (nomatch z), fun h => ?_⟩
        exfalso
        cases e1 : d.high with
        | none => have := c3 (.inl e) (.inl e1); omega
        | some l =>
          have := c2 l e1
          by_cases q : v + d.add ≤ l
          · have := c3 (.inl e) (.inr ⟨l, e1, q⟩); omega
          · omega
      | some k =>
        dsimp only
        rw [inS_iff]
        have a := c1 k e
        constructor
        · rintro ⟨g1, g2⟩
          have := g1 k rfl; have := g2 k rfl
          have := a.2 (by omega); omega
        · intro h
          have : v = k := by
            by_cases q : v + d.add ≤ k
            · have := a.2 q; omega
            · exfalso
              cases e1 : d.high with
              | none => have := c3 (.inr ⟨k, e, by omega⟩) (.inl e1); omega
              | some l =>
                have := c2 l e1
                by_cases q2 : v + d.add ≤ l
                · have := c3 (.inr ⟨k, e, by omega⟩) (.inr ⟨l, e1, q2⟩); omega
                · omega
          exact ⟨fun x hx => by cases hx; omega, fun x hx => by cases hx; omega⟩
theorem stays_ok {d : Dd} (ok : d.Ok) : SpOk (staysD d) := by
  intro l h e
  unfold staysD at e
  by_cases h0 : d.add = 0
  · rw [if_pos h0] at e
    have e' := Option.some.inj e
    have := ok l h (Prod.mk.inj e').1 (Prod.mk.inj e').2
    omega
  · rw [if_neg h0] at e
    cases q : (if d.add > 0 then d.high else d.low) with
    | none => rw [q] at e; cases e
    | some x => rw [q] at e; cases e; exact Int.le_refl _
theorem stays_bd {d : Dd} {b : Int} (i : d.In b) : SpIn b (staysD d) := by
  intro l h e
  unfold staysD at e
  by_cases h0 : d.add = 0
  · rw [if_pos h0] at e
    cases e
    exact ⟨i.2.2.1, i.2.2.2⟩
  · rw [if_neg h0] at e
    cases q : (if d.add > 0 then d.high else d.low) with
    | none => rw [q] at e; cases e
    | some x =>
      rw [q] at e; cases e
      have : -b ≤ x ∧ x ≤ b := by
        split at q
        · exact i.2.2.2 x q
        · exact i.2.2.1 x q
      exact ⟨in_some this.1 this.2, in_some this.1 this.2⟩
def beyL (o : Option Int) (g : Int) : Bool := match o with | none => false | some l => decide (g < l)
def beyH (o : Option Int) (g : Int) : Bool := match o with | none => false | some l => decide (g > l)
def beyond (d : Dd) (g : Int) : Bool := beyL d.low g || beyH d.high g
def leadsD (d : Dd) (g : Int) : Span := if beyond d g = true then none else some (if some g = d.low then none else some (g - d.add), if some g = d.high then none else some (g - d.add))
theorem beyond_f {d : Dd} {g : Int} (h : ¬ beyond d g = true) : (∀ l, d.low = some l → l ≤ g) ∧ ∀ l, d.high = some l → g ≤ l := by
  unfold beyond at h
  constructor
  · intro l e; rw [e] at h; simp [beyL, beyH] at h; omega
  · intro l e; rw [e] at h; simp [beyL, beyH] at h; omega
theorem leads_in {d : Dd} (ok : d.Ok) (g v : Int) : inS (leadsD d g) v = true ↔ d.ap v = g := by
  obtain ⟨c1, c2, c3⟩ := ap_cases d ok v
  unfold leadsD
  by_cases hb : beyond d g = true
  · rw [if_pos hb]
    refine ⟨fun z => (nomatch z), fun h => ?_⟩
    exfalso
    unfold beyond at hb
    cases e1 : d.low with
    | none =>
      cases e2 : d.high with
      | none => rw [e1, e2] at hb; simp [beyL, beyH] at hb
      | some k => rw [e1, e2] at hb; have := c2 k e2; simp [beyL, beyH] at hb; omega
    | some l =>
      have := c1 l e1
      cases e2 : d.high with
      | none => rw [e1, e2] at hb; simp [beyL, beyH] at hb; omega
      | some k => rw [e1, e2] at hb; have := c2 k e2; simp [beyL, beyH] at hb; omega
  · rw [if_neg hb, inS_iff]
    obtain ⟨b1, b2⟩ := beyond_f hb
    constructor
    · rintro ⟨h1, h2⟩
      rw [ap_eq ok]
      refine ⟨fun l e => ⟨b1 l e, fun q => ?_⟩, fun l e => ⟨b2 l e, fun q => ?_⟩, fun q1 q2 => ?_⟩
      · by_cases x : some g = d.low
        · rw [e] at x; exact Option.some.inj x
        · rw [if_neg x] at h1
          have := h1 _ rfl; have := b1 l e; omega
      · by_cases x : some g = d.high
        · rw [e] at x; exact Option.some.inj x
        · rw [if_neg x] at h2
          have := h2 _ rfl; have := b2 l e; omega
      · by_cases x : some g = d.low
        · rcases q1 with q1 | ⟨l, q1, q3⟩
          · rw [q1] at x; cases x
          · rw [q1] at x; cases x
            by_cases y : some g = d.high
            · rcases q2 with q2 | ⟨k, q2, q4⟩
              · rw [q2] at y; cases y
              · rw [q2] at y; cases y; omega
            · rw [if_neg y] at h2
              have := h2 _ rfl; omega
        · rw [if_neg x] at h1
          have := h1 _ rfl
          by_cases y : some g = d.high
          · rcases q2 with q2 | ⟨k, q2, q4⟩
            · rw [q2] at y; cases y
            · rw [q2] at y; cases y; omega
          · rw [if_neg y] at h2
            have := h2 _ rfl; omega
    · intro h
      subst h
      refine ⟨fun x hx => ?_, fun x hx => ?_⟩
      · by_cases y : some (d.ap v) = d.low
        · rw [if_pos y] at hx; cases hx
        · rw [if_neg y] at hx
          cases hx
          cases e1 : d.low with
          | none =>
            cases e2 : d.high with
            | none => have := c3 (.inl e1) (.inl e2); omega
            | some k =>
              by_cases q : k ≤ v + d.add
              · have := (c2 k e2).2 q; omega
              · have := c3 (.inl e1) (.inr ⟨k, e2, by omega⟩); omega
          | some l =>
            have q0 := c1 l e1
            by_cases q : v + d.add ≤ l
            · have := q0.2 q; exact absurd (by rw [e1, this]) y
            · cases e2 : d.high with
              | none => have := c3 (.inr ⟨l, e1, by omega⟩) (.inl e2); omega
              | some k =>
                by_cases q2 : k ≤ v + d.add
                · have := (c2 k e2).2 q2; omega
                · have := c3 (.inr ⟨l, e1, by omega⟩) (.inr ⟨k, e2, by omega⟩); omega
      · by_cases y : some (d.ap v) = d.high
        · rw [if_pos y] at hx; cases hx
        · rw [if_neg y] at hx
          cases hx
          cases e1 : d.high with
          | none =>
            cases e2 : d.low with
            | none => have := c3 (.inl e2) (.inl e1); omega
            | some k =>
              by_cases q : v + d.add ≤ k
              · have := (c1 k e2).2 q; omega
              · have := c3 (.inr ⟨k, e2, by omega⟩) (.inl e1); omega
          | some l =>
            have q0 := c2 l e1
            by_cases q : l ≤ v + d.add
            · have := q0.2 q; exact absurd (by rw [e1, this]) y
            · cases e2 : d.low with
              | none => have := c3 (.inl e2) (.inr ⟨l, e1, by omega⟩); omega
              | some k =>
                by_cases q2 : v + d.add ≤ k
                · have := (c1 k e2).2 q2; omega
                · have := c3 (.inr ⟨k, e2, by omega⟩) (.inr ⟨l, e1, by omega⟩); omega
theorem leads_ok {d : Dd} {g : Int} : SpOk (leadsD d g) := by
  intro l h e
  unfold leadsD at e
  by_cases hb : beyond d g = true
  · rw [if_pos hb] at e; cases e
  · rw [if_neg hb] at e
    have e' := Option.some.inj e
    have e1 := (Prod.mk.inj e').1
    have e2 := (Prod.mk.inj e').2
    split at e1
    · cases e1
    · split at e2
      · cases e2
      · cases e1; cases e2; exact Int.le_refl _
theorem leads_bd {d : Dd} {g b c : Int} (i : d.In b) (h1 : -c ≤ g) (h2 : g ≤ c) : SpIn (b + c) (leadsD d g) := by
  intro l h e
  unfold leadsD at e
  have := i.1; have := i.2.1
  by_cases hb : beyond d g = true
  · rw [if_pos hb] at e; cases e
  · rw [if_neg hb] at e
    have e' := Option.some.inj e
    have e1 := (Prod.mk.inj e').1
    have e2 := (Prod.mk.inj e').2
    subst e1 e2
    constructor
    · intro x hx
      split at hx
      · cases hx
      · cases hx; omega
    · intro x hx
      split at hx
      · cases hx
      · cases hx; omega
/-- a span as a value -/
def SpV (H : Hp) (v : V) (s : Span) : Prop := match s with
  | none => v = .non
  | some (l, h) => ∃ a, v = .ref a ∧ H a = some (.tup [oV l, oV h])
theorem SpV.same {H H' : Hp} {v : V} {s : Span} (e : Same H H') (h : SpV H v s) : SpV H' v s := by
  cases s with
  | none => exact h
  | some p => obtain ⟨a, h1, h2⟩ := h; exact ⟨a, h1, e _ _ h2⟩
def pS (s : Span) : PyData := match s with
  | none => .none
  | some (l, h) => .tuple [po l, po h]
theorem SpV.dp {K : PySem.W.Frag} {H : Hp} {v : V} {s : Span} (h : SpV H v s) : Dp K H v (pS s) := by
  cases s with
  | none => cases (show v = .non from h); exact .non
  | some p => obtain ⟨a, rfl, h2⟩ := h; exact .tup (SqT.of h2) (.cons (po_dp _) (.cons (po_dp _) .nil))
theorem fit_log {x b : Int} (h : -b ≤ x ∧ x ≤ b) (hb : b ≤ 10 ^ 500) : x.natAbs.log2 < 1920 := by
  refine log_lt (by decide) (Nat.lt_of_le_of_lt (m := 10 ^ 500) (by omega) (by decide))
theorem po_show {o : Option Int} {b : Int} (h : ∀ x, o = some x → -b ≤ x ∧ x ≤ b) (hb : b ≤ 10 ^ 500) : (po o).showable = true := by
  cases o with
  | none => rfl
  | some x => simp only [po, PyData.showable]; exact decide_eq_true (fit_log (h x rfl) hb)
theorem pS_show {s : Span} {b : Int} (h : SpIn b s) (hb : b ≤ 10 ^ 500) : (pS s).showable = true := by
  cases s with
  | none => rfl
  | some p =>
    obtain ⟨l, k⟩ := p
    simp only [pS, PyData.showable, PyData.showableAll, po_show (h l k rfl).1 hb, po_show (h l k rfl).2 hb, Bool.and_true]
theorem pS_rest (s : Span) : (pS s).depth ≤ 60 ∧ (pS s).hasDict = false ∧ cst (pS s) ≤ 10000000 := by
  cases s with
  | none => decide
  | some p => obtain ⟨l, k⟩ := p; cases l <;> cases k <;> simp [pS, po, PyData.depth, PyData.depthAll, PyData.hasDict, PyData.hasDictAll, cst, csts]
def NewS (H : Hp) (Q : VK) (s : Span) : Prop := ∀ (v : V) (H' : Hp), Same H H' → SpV H' v s → Q v H'
/-- the ends of a span that is walked: of none there are none -/
def spL (s : Span) : List V := match s with
  | none => []
  | some (l, h) => [oV l, oV h]
theorem spL_at {s : Span} {i : Nat} {y : V} (h : (spL s)[i]? = some y) : i < 2 ∧ ∃ o : Option Int, y = oV o ∧ ∃ l k, s = some (l, k) ∧ (o = l ∨ o = k) := by
  cases s with
  | none => simp [spL] at h
  | some p =>
    obtain ⟨l, k⟩ := p
    match i, h with
    | 0, h => exact ⟨by omega, l, (Option.some.inj h).symm, l, k, rfl, .inl rfl⟩
    | 1, h => exact ⟨by omega, k, (Option.some.inj h).symm, l, k, rfl, .inr rfl⟩
    | n + 2, h => simp [spL] at h
theorem or_span {K : PySem.W.Frag} {σ : L2.St} {H : Hp} {i : Nat} {v : V} {s : Span} {R : V → Hp → Prop} (h : σ[i]? = some (some v)) (hv : SpV H v s) (q : ∀ a H', Same H H' → H' a = some (.tup (spL s)) → R (.ref a) H') : tOrT K (tVar i) (tTup tNil) σ H R := by
  cases s with
  | none =>
    cases (show v = .non from hv)
    exact ⟨_, h, false, rfl, iteF ⟨sz, fun p hp => q p _ (same_new hp _) upd_same⟩⟩
  | some p =>
    obtain ⟨l, k⟩ := p
    obtain ⟨a, rfl, ha⟩ := hv
    exact ⟨_, h, true, .inr (.inl ⟨_, SqT.of ha, rfl⟩), iteT (q a H (Same.refl H) ha)⟩
theorem inS_end {s : Span} (ok : SpOk s) {l k o : Option Int} {x : Int} (e : s = some (l, k)) (h : o = l ∨ o = k) (ho : o = some x) : inS s x = true := by
  subst e
  rw [inS_iff]
  rcases h with rfl | rfl
  · subst ho
    exact ⟨fun y hy => by cases hy; exact Int.le_refl _, fun y hy => ok x y (by rw [hy])⟩
  · subst ho
    exact ⟨fun y hy => ok y x (by rw [hy]), fun y hy => by cases hy; exact Int.le_refl _⟩
theorem bool_eq_dec {b : Bool} {p : Prop} [Decidable p] (h : b = true ↔ p) : b = decide p := by
  by_cases c : p
  · rw [decide_eq_true c, h.mpr c]
  · rw [decide_eq_false c]; exact Bool.eq_false_iff.mpr fun z => c (h.mp z)
/-! ### shown data: one look -/
structure Sh (d : PyData) (n c : Nat) : Prop where
  s : d.showable = true
  dep : d.depth ≤ n
  c : cst d ≤ c
theorem shAll {α : Type} {f : α → PyData} {n c : Nat} : ∀ {xs : List α}, (∀ x ∈ xs, Sh (f x) n c) → PyData.showableAll (xs.map f) = true ∧ PyData.depthAll (xs.map f) ≤ n ∧ csts (xs.map f) ≤ (c + 4) * xs.length
  | [], _ => ⟨rfl, Nat.zero_le _, Nat.zero_le _⟩
  | x :: r, h => by
    obtain ⟨h1, h2, h3⟩ := shAll (xs := r) fun y hy => h y (List.mem_cons_of_mem _ hy)
    obtain ⟨g1, g2, g3⟩ := h x List.mem_cons_self
    refine ⟨?_, ?_, ?_⟩
    · simp only [List.map_cons, PyData.showableAll, g1, h1, Bool.and_self]
    · simp only [List.map_cons, PyData.depthAll]; omega
    · simp only [List.map_cons, csts, List.length_cons, Nat.mul_add, Nat.mul_one]; omega
theorem Sh.tup {α : Type} {f : α → PyData} {n c m k j : Nat} {xs : List α} (h : ∀ x ∈ xs, Sh (f x) n c) (hm : n + 1 ≤ m) (hl : xs.length ≤ j) (hk : (c + 4) * j + 4 ≤ k) : Sh (.tuple (xs.map f)) m k := by
  obtain ⟨h1, h2, h3⟩ := shAll h
  have h4 := Nat.mul_le_mul_left (c + 4) hl
  refine ⟨h1, ?_, ?_⟩
  · simp only [PyData.depth]; omega
  · show csts _ + 4 ≤ k; omega
theorem Sh.lst {α : Type} {f : α → PyData} {n c m k j : Nat} {xs : List α} (h : ∀ x ∈ xs, Sh (f x) n c) (hm : n + 1 ≤ m) (hl : xs.length ≤ j) (hk : (c + 4) * j + 4 ≤ k) : Sh (.list (xs.map f)) m k := by
  obtain ⟨h1, h2, h3⟩ := shAll h
  have h4 := Nat.mul_le_mul_left (c + 4) hl
  refine ⟨h1, ?_, ?_⟩
  · simp only [PyData.depth]; omega
  · show csts _ + 4 ≤ k; omega
theorem int_sh {i : Int} (h1 : -(10 ^ 100) ≤ i) (h2 : i ≤ 10 ^ 100) : Sh (.int i) 0 1921 := by
  refine ⟨?_, Nat.le_refl _, Nat.le_refl _⟩
  have : i.natAbs.log2 < 1920 := log_lt (by decide) (Nat.lt_of_le_of_lt (m := 10 ^ 100) (by omega) (by decide))
  simpa [PyData.showable] using this
theorem Sh.mono {d : PyData} {n c n' c' : Nat} (h : Sh d n c) (h1 : n ≤ n') (h2 : c ≤ c') : Sh d n' c' := ⟨h.s, Nat.le_trans h.dep h1, Nat.le_trans h.c h2⟩
theorem rep_ {K : PySem.W.Frag} {σ : L2.St} {H : Hp} {x : V} {d : PyData} {n c : Nat} {Q : VK} (hd : Dp K H x d) (s : Sh d n c) (hn : n ≤ 60 := by decide) (hc : c ≤ 10000000 := by decide) (q : Q (.str d.shown) H) :
    tNil σ H (fun xs H2 => (fun vs H1 => rRepr K vs H1 Q) (x :: xs) H2) :=
  ⟨x, d, rfl, hd, s.s, Nat.le_trans s.dep hn, shown_sz s.s (dp_noDict d x hd) (Nat.le_trans s.c hc), q⟩
theorem dps {α : Type} {K : PySem.W.Frag} {H : Hp} {g : α → V} {f : α → PyData} : ∀ {xs : List α}, (∀ x ∈ xs, Dp K H (g x) (f x)) → DpAll K H (xs.map g) (xs.map f)
  | [], _ => .nil
  | x :: r, h => .cons (h x List.mem_cons_self) (dps fun y hy => h y (List.mem_cons_of_mem _ hy))
theorem po_sh {b : Int} {o : Option Int} (h : ∀ l, o = some l → -b ≤ l ∧ l ≤ b) (hb : b ≤ 10 ^ 100) : Sh (po o) 0 1921 := by
  cases o with
  | none => exact ⟨rfl, Nat.le_refl _, by show 5 ≤ 1921; decide⟩
  | some i => have := h i rfl; exact int_sh (by omega) (by omega)
theorem pd_sh1 {b : Int} {d : Dd} (h : d.In b) (hb : b ≤ 10 ^ 100) : Sh (pd d) 1 6000 := by
  have := h.1; have := h.2.1
  refine Sh.tup (f := id) (n := 0) (c := 1921) (j := 3) (xs := [.int d.add, po d.low, po d.high]) ?_ (Nat.le_refl _) (Nat.le_refl _) (by decide)
  intro x hx
  simp only [List.mem_cons, List.mem_nil_iff, or_false] at hx
  rcases hx with rfl | rfl | rfl
  · exact int_sh (by omega) (by omega)
  · exact po_sh h.2.2.1 hb
  · exact po_sh h.2.2.2 hb
/-! ### boards and asks -/
def BoardAt (H : Hp) (b : Addr) (bs : List Int) : Prop := H b = some (.tup (bs.map V.int)) ∧ 1 ≤ bs.length ∧ bs.length ≤ 16
def Wi (c : Int) (bs : List Int) : Prop := ∀ x ∈ bs, -c ≤ x ∧ x ≤ c
theorem BoardAt.same {H H' : Hp} {b : Addr} {bs : List Int} (e : Same H H') (h : BoardAt H b bs) : BoardAt H' b bs := ⟨e _ _ h.1, h.2⟩
structure Ak where
  a : Addr
  hand : Int
  box : Nat
  da : Addr
  d : Dd
def Ak.vs (x : Ak) : List V := [.int x.hand, .int x.box, .ref x.da]
def Ak.at_ (H : Hp) (nb : Nat) (x : Ak) : Prop := H x.a = some (.tup x.vs) ∧ Da H x.da x.d ∧ 0 ≤ x.hand ∧ x.hand < 16 ∧ x.box < nb
def AsksAt (H : Hp) (k : Addr) (as : List Ak) (nb : Nat) : Prop := H k = some (.tup (as.map fun x => .ref x.a)) ∧ as.length ≤ 40 ∧ ∀ x ∈ as, x.at_ H nb
theorem Ak.at_.same {H H' : Hp} {nb : Nat} {x : Ak} (e : Same H H') (h : x.at_ H nb) : x.at_ H' nb := ⟨e _ _ h.1, h.2.1.same e, h.2.2⟩
theorem AsksAt.same {H H' : Hp} {k : Addr} {as : List Ak} {nb : Nat} (e : Same H H') (h : AsksAt H k as nb) : AsksAt H' k as nb := ⟨e _ _ h.1, h.2.1, fun x hx => (h.2.2 x hx).same e⟩
theorem Da.but {p : Addr} {ys : List V} {H H' : Hp} {a : Addr} {d : Dd} (e : But p H H') (hp : H p = some (.lst ys)) (h : Da H a d) : Da H' a d := ⟨e _ _ (ne_of h.1 hp (by intro z; cases z)) h.1, h.2⟩
theorem Ak.at_.but {p : Addr} {ys : List V} {H H' : Hp} {nb : Nat} {x : Ak} (e : But p H H') (hp : H p = some (.lst ys)) (h : x.at_ H nb) : x.at_ H' nb := ⟨e _ _ (ne_of h.1 hp (by intro z; cases z)) h.1, h.2.1.but e hp, h.2.2⟩
def Ak.pd (x : Ak) : PyData := .tuple [.int x.hand, .int x.box, Toy.pd x.d]
theorem Ak.at_.dp {K : PySem.W.Frag} {H : Hp} {nb : Nat} {x : Ak} (h : x.at_ H nb) : Dp K H (.ref x.a) x.pd := .tup (SqT.of h.1) (.cons (.int _) (.cons (.int _) (.cons h.2.1.dp .nil)))
theorem Ak.at_.sh {H : Hp} {nb : Nat} {x : Ak} (h : x.at_ H nb) (hn : nb ≤ 16) : Sh x.pd 2 19000 := by
  refine Sh.tup (f := id) (n := 1) (c := 6000) (j := 3) (xs := [.int x.hand, .int x.box, Toy.pd x.d]) ?_ (Nat.le_refl _) (Nat.le_refl _) (by decide)
  have := h.2.2
  intro y hy
  simp only [List.mem_cons, List.mem_nil_iff, or_false] at hy
  rcases hy with rfl | rfl | rfl
  · exact (int_sh (by omega) (by omega)).mono (by decide) (by decide)
  · exact (int_sh (by omega) (by omega)).mono (by decide) (by decide)
  · exact pd_sh1 h.2.1.2.1 (by decide)
def intsD (bs : List Int) : PyData := .tuple (bs.map PyData.int)
theorem ints_sh1 {bs : List Int} {c : Int} {n : Nat} (h : Wi c bs) (hc : c ≤ 10 ^ 100) (hn : bs.length ≤ n) : Sh (intsD bs) 1 (1925 * n + 4) :=
  Sh.tup (n := 0) (c := 1921) (j := n) (fun x hx => have := h x hx; int_sh (by omega) (by omega)) (Nat.le_refl _) hn (by omega)
theorem BoardAt.dp {K : PySem.W.Frag} {H : Hp} {b : Addr} {bs : List Int} (h : BoardAt H b bs) : Dp K H (.ref b) (intsD bs) := tupI_dp (SqT.of h.1)
def akD (as : List Ak) : PyData := .tuple (as.map Ak.pd)
theorem AsksAt.dp {K : PySem.W.Frag} {H : Hp} {k : Addr} {as : List Ak} {nb : Nat} (h : AsksAt H k as nb) : Dp K H (.ref k) (akD as) := .tup (SqT.of h.1) (dps fun x hx => (h.2.2 x hx).dp)
theorem AsksAt.sh {H : Hp} {k : Addr} {as : List Ak} {nb : Nat} (h : AsksAt H k as nb) (hn : nb ≤ 16) : Sh (akD as) 3 800000 :=
  Sh.tup (n := 2) (c := 19000) (j := 40) (fun x hx => (h.2.2 x hx).sh hn) (Nat.le_refl _) h.2.1 (by decide)
/-! ### asks played -/
def stepP (s : List Int × List Int) (x : Ak) : List Int × List Int := (s.1 ++ [s.2.getD x.box 0], s.2.set x.box (x.d.ap (s.2.getD x.box 0)))
def play (as : List Ak) (bs : List Int) : List Int × List Int := as.foldl stepP ([], bs)
theorem play_snoc {as : List Ak} {bs : List Int} {i : Nat} {x : Ak} (h : as[i]? = some x) : play (as.take (i + 1)) bs = stepP (play (as.take i) bs) x := by
  unfold play; rw [take_snoc h, List.foldl_append] <;> rfl
theorem Wi.set {c : Int} {bs : List Int} {i : Nat} {v : Int} (h : Wi c bs) (h1 : -c ≤ v) (h2 : v ≤ c) : Wi c (bs.set i v) := fun x hx => by
  rcases List.mem_or_eq_of_mem_set hx with h3 | h3
  · exact h x h3
  · subst h3; exact ⟨h1, h2⟩
theorem Wi.mono {c c' : Int} {bs : List Int} (h : Wi c bs) (e : c ≤ c') : Wi c' bs := fun x hx => by have := h x hx; omega
theorem Wi.get {c : Int} {bs : List Int} {i : Nat} (h : Wi c bs) (h0 : 0 ≤ c) : -c ≤ bs.getD i 0 ∧ bs.getD i 0 ≤ c := by
  rw [List.getD_eq_getElem?_getD]
  cases e : bs[i]? with
  | none => show -c ≤ 0 ∧ 0 ≤ c; omega
  | some x => exact h x (List.mem_of_getElem? e)
theorem snoc_ind {α : Type} {p : List α → Prop} (nil : p []) (snoc : ∀ l x, p l → p (l ++ [x])) (l : List α) : p l := by
  have h : ∀ l : List α, p l.reverse := fun l => by
    induction l with
    | nil => exact nil
    | cons x r ih => rw [List.reverse_cons]; exact snoc _ _ ih
  have := h l.reverse
  rwa [List.reverse_reverse] at this
theorem play_in {H : Hp} {nb : Nat} {bs : List Int} {c : Int} (hc : 0 ≤ c) (hb : Wi c bs) : ∀ {as : List Ak}, (∀ x ∈ as, x.at_ H nb) → (play as bs).1.length = as.length ∧ (play as bs).2.length = bs.length ∧ Wi (c + as.length * 10 ^ 80) (play as bs).1 ∧ Wi (c + as.length * 10 ^ 80) (play as bs).2 := by
  intro as
  induction as using snoc_ind with
  | nil => exact fun _ => ⟨rfl, rfl, (fun x hx => (nomatch hx)), hb.mono (by show c ≤ c + ((0 : Nat) : Int) * _; omega)⟩
  | snoc as x ih =>
    intro h
    obtain ⟨i1, i2, i3, i4⟩ := ih fun y hy => h y (List.mem_append_left _ hy)
    have hx := h x (List.mem_append_right _ List.mem_cons_self)
    have e : play (as ++ [x]) bs = stepP (play as bs) x := by unfold play; rw [List.foldl_append] <;> rfl
    have hg := i4.get (i := x.box) (by omega)
    have ha := ap_in (v := (play as bs).2.getD x.box 0) hx.2.1.2.1 hg.1 hg.2 (by omega)
    rw [e]
    have el : (((as ++ [x]).length : Nat) : Int) = as.length + 1 := by simp
    rw [el]
    refine ⟨?_, ?_, ?_, ?_⟩
    · show (_ ++ [_]).length = _; simp [i1]
    · show (List.set _ _ _).length = _; simp [i2]
    · intro y hy
      rcases List.mem_append.mp (show y ∈ _ ++ [_] from hy) with h3 | h3
      · have := i3 y h3; omega
      · have := List.mem_singleton.mp h3; subst this; omega
    · exact Wi.set (i4.mono (by omega)) (by omega) (by omega)
theorem menu8 : ∀ j : Nat, j < 8 → ∃ z : Int, ([.int 2147483629, .int 2147483587, .int 2147483579, .int 2147483563, .int 2147483549, .int 2147483543, .int 2147483497, .int 2147483489] : List V)[j]? = some (.int z) ∧ 0 < z ∧ z ≤ 2147483629
  | 0, _ => ⟨_, rfl, by decide, by decide⟩
  | 1, _ => ⟨_, rfl, by decide, by decide⟩
  | 2, _ => ⟨_, rfl, by decide, by decide⟩
  | 3, _ => ⟨_, rfl, by decide, by decide⟩
  | 4, _ => ⟨_, rfl, by decide, by decide⟩
  | 5, _ => ⟨_, rfl, by decide, by decide⟩
  | 6, _ => ⟨_, rfl, by decide, by decide⟩
  | 7, _ => ⟨_, rfl, by decide, by decide⟩
  | n + 8, h => absurd h (by omega)
theorem at3 {x0 x1 x2 : Int} : ∀ j : Nat, j < 3 → ∃ z : Int, ([.int x0, .int x1, .int x2] : List V)[j]? = some (.int z) ∧ (z = x0 ∨ z = x1 ∨ z = x2)
  | 0, _ => ⟨_, rfl, .inl rfl⟩
  | 1, _ => ⟨_, rfl, .inr (.inl rfl)⟩
  | 2, _ => ⟨_, rfl, .inr (.inr rfl)⟩
  | n + 3, h => absurd h (by omega)
theorem but_upd {p D : Addr} {H H1 : Hp} {o : HO} (n : H D = none) (a : But p H H1) : But p H (upd H1 D o) := fun b u hb e => by rw [upd_ne (ne_of_none e n)]; exact a b u hb e
theorem PotAt.upd {H : Hp} {p D : Addr} {o : HO} (n : p ≠ D) (h : PotAt H p) : PotAt (L2.upd H D o) p := by
  obtain ⟨a, b, h1, h2⟩ := h
  exact ⟨a, b, by rw [upd_ne n]; exact h1, h2⟩
theorem Wi.snoc {c : Int} {bs : List Int} {x : Int} (h : Wi c bs) (h1 : -c ≤ x) (h2 : x ≤ c) : Wi c (bs ++ [x]) := fun y hy => by
  rcases List.mem_append.mp hy with h3 | h3
  · exact h y h3
  · have := List.mem_singleton.mp h3; subst this; exact ⟨h1, h2⟩
theorem play_len {as : List Ak} {bs : List Int} : (play as bs).1.length = as.length ∧ (play as bs).2.length = bs.length := by
  induction as using snoc_ind with
  | nil => exact ⟨rfl, rfl⟩
  | snoc as x ih =>
    have e : play (as ++ [x]) bs = stepP (play as bs) x := by unfold play; rw [List.foldl_append] <;> rfl
    rw [e]
    refine ⟨?_, ?_⟩
    · show (_ ++ [_]).length = _; simp [ih.1]
    · show (List.set _ _ _).length = _; simp [ih.2]
theorem map_getD {us : List Int} {i : Nat} (h : i < us.length) : (us.map V.int)[i]? = some (.int (us.getD i 0)) := by
  rw [List.getElem?_map, List.getD_eq_getElem?_getD, List.getElem?_eq_getElem h] <;> rfl
/-- what is told of asks played -/
def TwoAt (H : Hp) (r : Addr) (s : List Int × List Int) : Prop := ∃ t1 t2, H r = some (.tup [.ref t1, .ref t2]) ∧ H t1 = some (.tup (s.1.map V.int)) ∧ H t2 = some (.tup (s.2.map V.int))
theorem TwoAt.same {H H' : Hp} {r : Addr} {s : List Int × List Int} (e : Same H H') (h : TwoAt H r s) : TwoAt H' r s := by
  obtain ⟨a, b, h1, h2, h3⟩ := h
  exact ⟨a, b, e _ _ h1, e _ _ h2, e _ _ h3⟩
def twoD (s : List Int × List Int) : PyData := .tuple [intsD s.1, intsD s.2]
theorem TwoAt.dp {K : PySem.W.Frag} {H : Hp} {r : Addr} {s : List Int × List Int} (h : TwoAt H r s) : Dp K H (.ref r) (twoD s) := by
  obtain ⟨a, b, h1, h2, h3⟩ := h
  exact .tup (SqT.of h1) (.cons (tupI_dp (SqT.of h2)) (.cons (tupI_dp (SqT.of h3)) .nil))
theorem play_sh {H : Hp} {k : Addr} {as : List Ak} {bs : List Int} {c : Int} (hk : AsksAt H k as bs.length) (hn : bs.length ≤ 16) (hw : Wi c bs) (h0 : 0 ≤ c) (hc : c ≤ 10 ^ 91) : Sh (twoD (play as bs)) 2 160000 := by
  obtain ⟨h1, h2, h3, h4⟩ := play_in h0 hw hk.2.2
  have h40 := hk.2.1
  have hb : c + (as.length : Int) * 10 ^ 80 ≤ 10 ^ 100 := by omega
  refine Sh.tup (f := id) (n := 1) (c := 77004) (j := 2) (xs := [intsD (play as bs).1, intsD (play as bs).2]) ?_ (Nat.le_refl _) (Nat.le_refl _) (by decide)
  intro x hx
  simp only [List.mem_cons, List.mem_nil_iff, or_false] at hx
  rcases hx with rfl | rfl
  · exact ints_sh1 (n := 40) h3 hb (by omega)
  · exact ints_sh1 (n := 40) h4 hb (by omega)
/-! ### trees -/
inductive Tr where
  | leaf (n : Nat)
  | node (l r : Tr)
def Tr.cnt : Tr → Nat
  | .leaf _ => 1
  | .node l r => l.cnt + r.cnt
def Tr.h : Tr → Nat
  | .leaf _ => 1
  | .node l r => max l.h r.h + 1
def Tr.d : Tr → PyData
  | .leaf n => .int n
  | .node l r => .tuple [l.d, r.d]
def Tr.big : Tr → Nat
  | .leaf n => n
  | .node l r => max l.big r.big
def TrAt (H : Hp) : V → Tr → Prop
  | v, .leaf n => v = .int n
  | v, .node l r => ∃ a x y, v = .ref a ∧ H a = some (.tup [x, y]) ∧ TrAt H x l ∧ TrAt H y r
theorem TrAt.same {H H' : Hp} (e : Same H H') : ∀ {t : Tr} {v : V}, TrAt H v t → TrAt H' v t
  | .leaf _, _, h => h
  | .node l r, _, ⟨a, x, y, h1, h2, h3, h4⟩ => ⟨a, x, y, h1, e _ _ h2, TrAt.same e h3, TrAt.same e h4⟩
theorem TrAt.dp {K : PySem.W.Frag} {H : Hp} : ∀ {t : Tr} {v : V}, TrAt H v t → Dp K H v t.d
  | .leaf n, _, h => by
    cases (show _ = V.int n from h)
    exact .int n
  | .node l r, _, ⟨a, x, y, h1, h2, h3, h4⟩ => by
    cases h1
    exact .tup (SqT.of h2) (.cons h3.dp (.cons h4.dp .nil))
theorem Tr.sh : ∀ {t : Tr} {b : Nat}, t.big ≤ b → b ≤ 10 ^ 9 → t.d.showable = true ∧ t.d.depth + 1 ≤ t.h ∧ cst t.d + 12 ≤ 1940 * t.cnt
  | .leaf n, b, h, hb => by
    have h' : n ≤ b := h
    have i := int_sh (i := n) (by omega) (by omega)
    exact ⟨i.s, Nat.le_refl _, by show 1921 + 12 ≤ 1940 * 1; decide⟩
  | .node l r, b, h, hb => by
    have h' : max l.big r.big ≤ b := h
    obtain ⟨a1, a2, a3⟩ := Tr.sh (t := l) (b := b) (by omega) hb
    obtain ⟨b1, b2, b3⟩ := Tr.sh (t := r) (b := b) (by omega) hb
    refine ⟨?_, ?_, ?_⟩
    · simp only [Tr.d, PyData.showable, PyData.showableAll, a1, b1, Bool.and_self]
    · simp only [Tr.d, PyData.depth, PyData.depthAll, Tr.h]; omega
    · show (cst l.d + 4 + (cst r.d + 4 + 0)) + 4 + 12 ≤ 1940 * (l.cnt + r.cnt); omega
theorem Tr.shw {t : Tr} (h1 : t.big ≤ 10 ^ 9) (h2 : t.h ≤ 50) (h3 : t.cnt ≤ 50) : Sh t.d 60 100000 := by
  obtain ⟨a, b, c⟩ := Tr.sh h1 (Nat.le_refl _)
  exact ⟨a, by omega, by omega⟩
theorem Tr.h_pos : ∀ t : Tr, 1 ≤ t.h
  | .leaf _ => Nat.le_refl _
  | .node _ _ => Nat.le_add_left _ _
/-- the halved tree -/
def hv (f m : Nat) : Tr := if m ≤ 1 then .leaf f else .node (hv f ((m + 1) / 2)) (hv (f + (m + 1) / 2) (m - (m + 1) / 2))
termination_by m
decreasing_by all_goals omega
theorem hv_one {f m : Nat} (h : m ≤ 1) : hv f m = .leaf f := by rw [hv, if_pos h]
theorem hv_more {f m : Nat} (h : ¬ m ≤ 1) : hv f m = .node (hv f ((m + 1) / 2)) (hv (f + (m + 1) / 2) (m - (m + 1) / 2)) := by rw [hv, if_neg h]
def IsH : Tr → Nat → Prop
  | .leaf n, f => n = f
  | .node l r, f => (l.cnt = r.cnt ∨ l.cnt = r.cnt + 1) ∧ IsH l f ∧ IsH r (f + l.cnt)
theorem hv_is : ∀ (m f : Nat), 1 ≤ m → IsH (hv f m) f ∧ (hv f m).cnt = m ∧ (hv f m).h ≤ m ∧ (hv f m).big ≤ f + m := by
  intro m
  induction m using Nat.strongRecOn with
  | _ m ih =>
    intro f h
    by_cases c : m ≤ 1
    · rw [hv_one c]
      have : m = 1 := by omega
      subst this
      exact ⟨rfl, rfl, Nat.le_refl _, Nat.le_add_right _ _⟩
    · rw [hv_more c]
      obtain ⟨a1, a2, a3, a4⟩ := ih ((m + 1) / 2) (by omega) f (by omega)
      obtain ⟨b1, b2, b3, b4⟩ := ih (m - (m + 1) / 2) (by omega) (f + (m + 1) / 2) (by omega)
      refine ⟨⟨by omega, a1, by rw [a2]; exact b1⟩, ?_, ?_, ?_⟩
      · show _ + _ = _; omega
      · show max _ _ + 1 ≤ _; omega
      · show max _ _ ≤ _; omega
/-- the chained tree of so many -/
def ch : Nat → Tr
  | 0 => .leaf 0
  | n + 1 => .node (ch n) (.leaf (n + 1))
theorem ch_is : ∀ n, (ch n).cnt = n + 1 ∧ (ch n).h ≤ n + 1 ∧ (ch n).big ≤ n
  | 0 => ⟨rfl, Nat.le_refl _, Nat.le_refl _⟩
  | n + 1 => by
    obtain ⟨a, b, c⟩ := ch_is n
    refine ⟨?_, ?_, ?_⟩
    · show _ + 1 = _; omega
    · show max _ 1 + 1 ≤ _; omega
    · show max _ (n + 1) ≤ _; omega
theorem TrAt.but {p : Addr} {ys : List V} {H H' : Hp} (e : But p H H') (hp : H p = some (.lst ys)) : ∀ {t : Tr} {v : V}, TrAt H v t → TrAt H' v t
  | .leaf _, _, h => h
  | .node l r, _, ⟨a, x, y, h1, h2, h3, h4⟩ => ⟨a, x, y, h1, e _ _ (ne_of h2 hp (by intro z; cases z)) h2, TrAt.but e hp h3, TrAt.but e hp h4⟩
/-! ### rows of deeds, folded and shared out -/
def behs (ds : List Dd) : Dd := ds.foldl beh look
def Oks (ds : List Dd) : Prop := ∀ d ∈ ds, d.Ok
theorem behs_snoc (ds : List Dd) (d : Dd) : behs (ds ++ [d]) = beh (behs ds) d := by unfold behs; rw [List.foldl_append] <;> rfl
theorem behs_ok : ∀ {ds : List Dd}, Oks ds → (behs ds).Ok := by
  intro ds
  induction ds using snoc_ind with
  | nil => exact fun _ => look_ok
  | snoc ds d ih => exact fun h => by rw [behs_snoc]; exact beh_ok (ih fun x hx => h x (List.mem_append_left _ hx)) (h d (List.mem_append_right _ List.mem_cons_self))
theorem behs_app {xs : List Dd} (hx : Oks xs) : ∀ {ys : List Dd}, Oks ys → behs (xs ++ ys) = beh (behs xs) (behs ys) := by
  intro ys
  induction ys using snoc_ind with
  | nil => exact fun _ => by rw [List.append_nil]; exact (beh_look (behs_ok hx)).symm
  | snoc ys y ih =>
    intro h
    have h1 : Oks ys := fun x hx => h x (List.mem_append_left _ hx)
    have h2 : y.Ok := h y (List.mem_append_right _ List.mem_cons_self)
    rw [← List.append_assoc, behs_snoc, ih h1, behs_snoc, beh_assoc (behs_ok hx) (behs_ok h1) h2]
theorem behs_one {d : Dd} (h : d.Ok) : behs [d] = d := look_beh h
def ans : Int → List Dd → List Int
  | _, [] => []
  | v, d :: r => v :: ans (d.ap v) r
def aps : Int → List Dd → Int
  | v, [] => v
  | v, d :: r => aps (d.ap v) r
theorem aps_snoc : ∀ (ds : List Dd) (v : Int) (d : Dd), aps v (ds ++ [d]) = d.ap (aps v ds)
  | [], _, _ => rfl
  | _ :: r, _, _ => aps_snoc r _ _
theorem ans_app : ∀ (xs ys : List Dd) (v : Int), ans v (xs ++ ys) = ans v xs ++ ans (aps v xs) ys
  | [], _, _ => rfl
  | x :: r, ys, v => congrArg (v :: ·) (ans_app r ys _)
theorem ans_len : ∀ (xs : List Dd) (v : Int), (ans v xs).length = xs.length
  | [], _ => rfl
  | _ :: r, _ => congrArg (· + 1) (ans_len r _)
theorem behs_ap : ∀ {ds : List Dd}, Oks ds → ∀ v, (behs ds).ap v = aps v ds := by
  intro ds
  induction ds using snoc_ind with
  | nil => exact fun _ v => look_ap v
  | snoc ds d ih =>
    intro h v
    have h1 : Oks ds := fun x hx => h x (List.mem_append_left _ hx)
    have h2 : d.Ok := h d (List.mem_append_right _ List.mem_cons_self)
    rw [behs_snoc, beh_ap (behs_ok h1) h2, ih h1, aps_snoc]
/-- a tree's leaves are the numbers from one on -/
def IsRow : Tr → Nat → Prop
  | .leaf n, f => n = f
  | .node l r, f => IsRow l f ∧ IsRow r (f + l.cnt)
theorem Tr.cnt_pos : ∀ t : Tr, 1 ≤ t.cnt
  | .leaf _ => Nat.le_refl _
  | .node l r => Nat.le_trans l.cnt_pos (Nat.le_add_right _ _)
theorem Tr.h_cnt : ∀ t : Tr, t.h ≤ t.cnt
  | .leaf _ => Nat.le_refl _
  | .node l r => by
    have := l.h_cnt; have := r.h_cnt; have := l.cnt_pos; have := r.cnt_pos
    show max l.h r.h + 1 ≤ l.cnt + r.cnt
    omega
theorem IsRow.big : ∀ {t : Tr} {f : Nat}, IsRow t f → t.big ≤ f + t.cnt
  | .leaf n, f, h => by cases (show n = f from h); exact Nat.le_add_right _ _
  | .node l r, f, ⟨h1, h2⟩ => by
    have := h1.big; have := h2.big
    show max l.big r.big ≤ f + (l.cnt + r.cnt)
    omega
theorem isH_row : ∀ {t : Tr} {f : Nat}, IsH t f → IsRow t f
  | .leaf _, _, h => h
  | .node _ _, _, ⟨_, h1, h2⟩ => ⟨isH_row h1, isH_row h2⟩
theorem ch_row : ∀ n, IsRow (ch n) 0
  | 0 => rfl
  | n + 1 => ⟨ch_row n, by show n + 1 = 0 + (ch n).cnt; rw [(ch_is n).1]; omega⟩
def FT (ds : List Dd) : Tr → Dd
  | .leaf n => ds.getD n look
  | .node l r => beh (FT ds l) (FT ds r)
def ST (ds : List Dd) : Tr → Int → List Int
  | .leaf _, v => [v]
  | .node l r, v => ST ds l v ++ ST ds r ((FT ds l).ap v)
theorem cut_add {ds : List Dd} {f a b : Nat} : (ds.drop f).take (a + b) = (ds.drop f).take a ++ (ds.drop (f + a)).take b := by
  rw [List.take_add, List.drop_drop]
theorem oks_cut {ds : List Dd} (h : Oks ds) (f n : Nat) : Oks ((ds.drop f).take n) := fun d hd => h d (List.mem_of_mem_drop (List.mem_of_mem_take hd))
theorem cut_one {ds : List Dd} {n : Nat} (h : n < ds.length) : (ds.drop n).take 1 = [ds.getD n look] := by
  rw [List.getD_eq_getElem?_getD, List.getElem?_eq_getElem h, List.drop_eq_getElem_cons h] <;> rfl
theorem FT_is {ds : List Dd} (ok : Oks ds) : ∀ {t : Tr} {f : Nat}, IsRow t f → f + t.cnt ≤ ds.length → FT ds t = behs ((ds.drop f).take t.cnt)
  | .leaf n, f, h, hl => by
    cases (show n = f from h)
    have hl' : n < ds.length := hl
    show ds.getD n look = behs ((ds.drop n).take 1)
    rw [cut_one hl', behs_one]
    refine ok _ ?_
    rw [List.getD_eq_getElem?_getD, List.getElem?_eq_getElem hl']
    exact List.getElem_mem hl'
  | .node l r, f, ⟨h1, h2⟩, hl => by
    have hl' : f + (l.cnt + r.cnt) ≤ ds.length := hl
    show beh (FT ds l) (FT ds r) = behs ((ds.drop f).take (l.cnt + r.cnt))
    rw [FT_is ok h1 (by omega), FT_is ok h2 (by omega), cut_add, behs_app (oks_cut ok _ _) (oks_cut ok _ _)]
theorem ST_is {ds : List Dd} (ok : Oks ds) : ∀ {t : Tr} {f : Nat} {v : Int}, IsRow t f → f + t.cnt ≤ ds.length → ST ds t v = ans v ((ds.drop f).take t.cnt)
  | .leaf n, f, v, h, hl => by
    cases (show n = f from h)
    have hl' : n < ds.length := hl
    show [v] = ans v ((ds.drop n).take 1)
    rw [cut_one hl'] <;> rfl
  | .node l r, f, v, ⟨h1, h2⟩, hl => by
    have hl' : f + (l.cnt + r.cnt) ≤ ds.length := hl
    show ST ds l v ++ ST ds r ((FT ds l).ap v) = ans v ((ds.drop f).take (l.cnt + r.cnt))
    rw [ST_is ok h1 (by omega), ST_is ok h2 (by omega), cut_add, ans_app, FT_is ok h1 (by omega), behs_ap (oks_cut ok _ _)]
theorem FT_all {ds : List Dd} (ok : Oks ds) {t : Tr} (h : IsRow t 0) (hl : t.cnt = ds.length) : FT ds t = behs ds := by
  rw [FT_is ok h (by omega), List.drop_zero, hl, List.take_length]
theorem ST_all {ds : List Dd} (ok : Oks ds) {t : Tr} {v : Int} (h : IsRow t 0) (hl : t.cnt = ds.length) : ST ds t v = ans v ds := by
  rw [ST_is ok h (by omega), List.drop_zero, hl, List.take_length]
/-- a tuple of deeds -/
def DsAt (H : Hp) (k : Addr) (ps : List (Addr × Dd)) : Prop := H k = some (.tup (ps.map fun x => .ref x.1)) ∧ 1 ≤ ps.length ∧ ps.length ≤ 40 ∧ ∀ x ∈ ps, Da H x.1 x.2
theorem DsAt.same {H H' : Hp} {k : Addr} {ps : List (Addr × Dd)} (e : Same H H') (h : DsAt H k ps) : DsAt H' k ps := ⟨e _ _ h.1, h.2.1, h.2.2.1, fun x hx => (h.2.2.2 x hx).same e⟩
def dsOf (ps : List (Addr × Dd)) : List Dd := ps.map Prod.snd
theorem DsAt.oks {H : Hp} {k : Addr} {ps : List (Addr × Dd)} (h : DsAt H k ps) : Oks (dsOf ps) := fun d hd => by
  obtain ⟨x, hx, rfl⟩ := List.mem_map.mp hd
  exact (h.2.2.2 x hx).2.2
/-- rows of trees, one after another -/
def Rows : List Tr → Nat → Nat → Prop
  | [], f, m => f = m
  | t :: r, f, m => IsRow t f ∧ Rows r (f + t.cnt) m
def Tr.sz : Tr → Nat
  | .leaf _ => 1
  | .node l r => l.sz + r.sz + 1
def szs : List Tr → Nat
  | [] => 0
  | t :: r => t.sz + szs r
theorem Tr.lay : ∀ t : Tr, t.d.canLay0 = true
  | .leaf _ => rfl
  | .node l r => by
    have := l.lay; have := r.lay
    simp_all [Tr.d, PyData.canLay0, PyData.canLayAll0]
theorem rows_len : ∀ {ts : List Tr} {f m : Nat}, Rows ts f m → ts.length + f ≤ m
  | [], _, _, h => by cases (show _ = _ from h); exact Nat.le_of_eq (Nat.zero_add _)
  | t :: r, f, m, ⟨_, h⟩ => by
    have := rows_len h
    have := t.cnt_pos
    show r.length + 1 + f ≤ m
    omega
theorem eqv_nil : ∀ ds : List PyData, PyData.eqv (.list ds) (.list []) = ds.isEmpty
  | [] => rfl
  | _ :: _ => rfl
theorem lays {ts : List (V × Tr)} : PyData.canLayAll0 (ts.map fun x => x.2.d) = true := by
  induction ts with
  | nil => rfl
  | cons x r ih => simp [PyData.canLayAll0, x.2.lay, ih]
theorem depths : ∀ {xs : List (V × Tr)}, (∀ x ∈ xs, x.2.h ≤ 40 ∧ x.2.big ≤ 100) → PyData.depthAll (xs.map fun x => x.2.d) ≤ 50
  | [], _ => Nat.zero_le _
  | x :: r, hx => by
    have h1 := depths (xs := r) fun y hy => hx y (List.mem_cons_of_mem _ hy)
    have h2 := hx x List.mem_cons_self
    have h3 := (Tr.sh (Nat.le_trans h2.2 (by decide)) (Nat.le_refl (10 ^ 9))).2.1
    simp only [List.map_cons, PyData.depthAll]
    omega
theorem ST_len (ds : List Dd) : ∀ (t : Tr) (v : Int), (ST ds t v).length = t.cnt
  | .leaf _, _ => rfl
  | .node l r, v => by
    show (ST ds l v ++ ST ds r _).length = l.cnt + r.cnt
    rw [List.length_append, ST_len ds l, ST_len ds r]
def TsAt (H : Hp) (T : Addr) (ts : List (V × Tr)) (m : Nat) : Prop := H T = some (.lst (ts.map fun x => x.1)) ∧ ts.length ≤ 6 ∧ ∀ x ∈ ts, TrAt H x.1 x.2 ∧ IsRow x.2 0 ∧ x.2.cnt = m
theorem TsAt.same {H H' : Hp} {T : Addr} {ts : List (V × Tr)} {m : Nat} (e : Same H H') (h : TsAt H T ts m) : TsAt H' T ts m := ⟨e _ _ h.1, h.2.1, fun x hx => ⟨(h.2.2 x hx).1.same e, (h.2.2 x hx).2⟩⟩
theorem TsAt.but {p : Addr} {H H' : Hp} {T : Addr} {ts : List (V × Tr)} {m : Nat} (e : But p H H') (n : T ≠ p) {ys : List V} (hp : H p = some (.lst ys)) (h : TsAt H T ts m) : TsAt H' T ts m := ⟨e _ _ n h.1, h.2.1, fun x hx => ⟨(h.2.2 x hx).1.but e hp, (h.2.2 x hx).2⟩⟩
def tsD (ts : List (V × Tr)) : PyData := .list (ts.map fun x => x.2.d)
theorem TsAt.dp {K : PySem.W.Frag} {H : Hp} {T : Addr} {ts : List (V × Tr)} {m : Nat} (h : TsAt H T ts m) : Dp K H (.ref T) (tsD ts) := .lst (SqL.of h.1) (dps fun x hx => (h.2.2 x hx).1.dp)
theorem row_sh {t : Tr} {m : Nat} (h : IsRow t 0) (hc : t.cnt = m) (hm : m ≤ 40) : Sh t.d 40 80000 := by
  have h1 := h.big
  have h2 := t.h_cnt
  obtain ⟨a, b, c⟩ := Tr.sh (t := t) (b := 100) (by omega) (by decide)
  exact ⟨a, by omega, by omega⟩
theorem TsAt.sh {H : Hp} {T : Addr} {ts : List (V × Tr)} {m : Nat} (h : TsAt H T ts m) (hm : m ≤ 40) : Sh (tsD ts) 41 500000 :=
  Sh.lst (n := 40) (c := 80000) (j := 6) (fun x hx => row_sh (h.2.2 x hx).2.1 (h.2.2 x hx).2.2 hm) (Nat.le_refl _) h.2.1 (by decide)
theorem behs_in {b : Int} (h0 : 0 ≤ b) : ∀ {ds : List Dd}, (∀ d ∈ ds, d.In b) → (behs ds).In (ds.length * b) := by
  intro ds
  induction ds using snoc_ind with
  | nil => exact fun _ => by show look.In _; exact look_in (by simp)
  | snoc ds d ih =>
    intro h
    rw [behs_snoc]
    have h1 := ih fun x hx => h x (List.mem_append_left _ hx)
    have h2 := h d (List.mem_append_right _ List.mem_cons_self)
    have h3 := beh_in h1 h2 (Int.mul_nonneg (by omega) h0) h0
    rw [show (((ds ++ [d]).length : Nat) : Int) = ds.length + 1 by simp, Int.add_mul]
    refine In.le h3 ?_
    omega
theorem ans_in {b : Int} (h0 : 0 ≤ b) : ∀ {ds : List Dd} {v c : Int}, (∀ d ∈ ds, d.In b) → -c ≤ v → v ≤ c → 0 ≤ c → Wi (c + ds.length * b) (ans v ds)
  | [], _, _, _, _, _, _ => fun x hx => nomatch hx
  | d :: r, v, c, h, h1, h2, hc => by
    have h3 := ap_in (h d List.mem_cons_self) h1 h2 hc
    have h4 := ans_in h0 (ds := r) (v := d.ap v) (c := b + c) (fun x hx => h x (List.mem_cons_of_mem _ hx)) (by omega) (by omega) (by omega)
    have e : c + (((d :: r).length : Nat) : Int) * b = b + c + (r.length : Int) * b := by
      rw [List.length_cons, Int.natCast_add, Int.add_mul]
      omega
    have h5 := Int.mul_nonneg (show (0 : Int) ≤ (((d :: r).length : Nat) : Int) by omega) h0
    intro x hx
    rcases List.mem_cons.mp (show x ∈ v :: ans (d.ap v) r from hx) with rfl | hx
    · omega
    · rw [e]; exact h4 x hx
theorem DsAt.but {p : Addr} {H H' : Hp} {k : Addr} {ps : List (Addr × Dd)} (e : But p H H') {ys : List V} (hp : H p = some (.lst ys)) (h : DsAt H k ps) : DsAt H' k ps := ⟨e _ _ (ne_of h.1 hp (by intro z; cases z)) h.1, h.2.1, h.2.2.1, fun x hx => (h.2.2.2 x hx).but e hp⟩
def dsD (ps : List (Addr × Dd)) : PyData := .tuple (ps.map fun x => Toy.pd x.2)
theorem DsAt.dp {K : PySem.W.Frag} {H : Hp} {k : Addr} {ps : List (Addr × Dd)} (h : DsAt H k ps) : Dp K H (.ref k) (dsD ps) := .tup (SqT.of h.1) (dps fun x hx => (h.2.2.2 x hx).dp)
theorem DsAt.sh {H : Hp} {k : Addr} {ps : List (Addr × Dd)} (h : DsAt H k ps) : Sh (dsD ps) 2 250000 :=
  Sh.tup (n := 1) (c := 6000) (j := 40) (fun x hx => pd_sh1 (h.2.2.2 x hx).2.1 (by decide)) (Nat.le_refl _) h.2.2.1 (by decide)
theorem DsAt.ins {H : Hp} {k : Addr} {ps : List (Addr × Dd)} (h : DsAt H k ps) : ∀ d ∈ dsOf ps, d.In (10 ^ 80) := fun d hd => by
  obtain ⟨x, hx, rfl⟩ := List.mem_map.mp hd
  exact (h.2.2.2 x hx).2.1
theorem cut_mapG {α : Type} {g : α → V} (us : List α) (lo hi : Option Int) : ∃ ws : List α, cutV (us.map g) lo hi = ws.map g ∧ (ws.length ≤ us.length ∧ ∀ x ∈ ws, x ∈ us) := by
  refine ⟨(us.drop (HT.sIx (us.map g).length 0 lo)).take (HT.sIx (us.map g).length (us.map g).length hi - HT.sIx (us.map g).length 0 lo), ?_, ?_, fun x hx => List.mem_of_mem_drop (List.mem_of_mem_take hx)⟩
  · unfold cutV; rw [List.map_take, List.map_drop]
  · rw [List.length_take, List.length_drop]; omega
/-! ### what all asks make of each box -/
def stepM (s : List Dd × List Dd) (x : Ak) : List Dd × List Dd := (s.1 ++ [s.2.getD x.box look], s.2.set x.box (beh (s.2.getD x.box look) x.d))
def madeOf (as : List Ak) (n : Nat) : List Dd × List Dd := as.foldl stepM ([], List.replicate n look)
theorem made_app {as : List Ak} {n : Nat} {x : Ak} : madeOf (as ++ [x]) n = stepM (madeOf as n) x := by unfold madeOf; rw [List.foldl_append] <;> rfl
theorem made_snoc {as : List Ak} {n i : Nat} {x : Ak} (h : as[i]? = some x) : madeOf (as.take (i + 1)) n = stepM (madeOf (as.take i) n) x := by rw [take_snoc h, made_app]
theorem made_len {as : List Ak} {n : Nat} : (madeOf as n).1.length = as.length ∧ (madeOf as n).2.length = n := by
  induction as using snoc_ind with
  | nil => exact ⟨rfl, List.length_replicate⟩
  | snoc as x ih =>
    rw [made_app]
    refine ⟨?_, ?_⟩
    · show (_ ++ [_]).length = _; simp [ih.1]
    · show (List.set _ _ _).length = _; simp [ih.2]
def boxd (b : Nat) (as : List Ak) : List Dd := (as.filter fun x => decide (x.box = b)).map fun x => x.d
theorem boxd_snoc {b : Nat} {as : List Ak} {x : Ak} : boxd b (as ++ [x]) = if x.box = b then boxd b as ++ [x.d] else boxd b as := by
  unfold boxd
  rw [List.filter_append, List.map_append]
  by_cases c : x.box = b
  · rw [if_pos c, List.filter_cons_of_pos (by simp [c])] <;> rfl
  · rw [if_neg c, List.filter_cons_of_neg (by simp [c])]; simp
theorem getD_set {α : Type} {l : List α} {i j : Nat} {a d : α} (h : i < l.length) : (l.set i a).getD j d = if i = j then a else l.getD j d := by
  rw [List.getD_eq_getElem?_getD, List.getElem?_set, List.getD_eq_getElem?_getD]
  by_cases c : i = j
  · rw [if_pos c, if_pos c, if_pos h] <;> rfl
  · rw [if_neg c, if_neg c]
theorem made_get {n b : Nat} (hb : b < n) : ∀ {as : List Ak}, (∀ x ∈ as, x.box < n) → (madeOf as n).2.getD b look = behs (boxd b as) := by
  intro as
  induction as using snoc_ind with
  | nil =>
    intro _
    show (List.replicate n look).getD b look = look
    rw [List.getD_eq_getElem?_getD, List.getElem?_replicate]
    split <;> rfl
  | snoc as x ih =>
    intro h
    have hx := h x (List.mem_append_right _ List.mem_cons_self)
    have h1 := ih fun y hy => h y (List.mem_append_left _ hy)
    rw [made_app]
    show ((madeOf as n).2.set x.box (beh ((madeOf as n).2.getD x.box look) x.d)).getD b look = _
    rw [getD_set (by rw [made_len.2]; exact hx), boxd_snoc]
    by_cases c : x.box = b
    · subst c
      rw [if_pos rfl, if_pos rfl, behs_snoc, h1]
    · rw [if_neg c, if_neg c, h1]
theorem play_get {bs : List Int} {b : Nat} (hb : b < bs.length) : ∀ {as : List Ak}, (∀ x ∈ as, x.box < bs.length) → (play as bs).2.getD b 0 = aps (bs.getD b 0) (boxd b as) := by
  intro as
  induction as using snoc_ind with
  | nil => exact fun _ => rfl
  | snoc as x ih =>
    intro h
    have hx := h x (List.mem_append_right _ List.mem_cons_self)
    have h1 := ih fun y hy => h y (List.mem_append_left _ hy)
    have e : play (as ++ [x]) bs = stepP (play as bs) x := by unfold play; rw [List.foldl_append] <;> rfl
    rw [e]
    show ((play as bs).2.set x.box (x.d.ap ((play as bs).2.getD x.box 0))).getD b 0 = _
    rw [getD_set (by rw [play_len.2]; exact hx), boxd_snoc]
    by_cases c : x.box = b
    · subst c
      rw [if_pos rfl, if_pos rfl, aps_snoc, h1]
    · rw [if_neg c, if_neg c, h1]
theorem boxd_ok {b : Nat} {as : List Ak} (h : ∀ x ∈ as, x.d.Ok) : Oks (boxd b as) := fun d hd => by
  obtain ⟨x, hx, rfl⟩ := List.mem_map.mp hd
  exact h x (List.mem_filter.mp hx).1
theorem getD_app {α : Type} {l : List α} {a d : α} {k : Nat} : (l ++ [a]).getD k d = if k = l.length then a else l.getD k d := by
  rw [List.getD_eq_getElem?_getD, List.getD_eq_getElem?_getD]
  by_cases c : k = l.length
  · subst c; rw [if_pos rfl, List.getElem?_append_right (Nat.le_refl _), Nat.sub_self] <;> rfl
  · rw [if_neg c]
    by_cases c2 : k < l.length
    · rw [List.getElem?_append_left c2]
    · rw [List.getElem?_eq_none (by simp; omega), List.getElem?_eq_none (by omega)]
theorem ahead_get {bs : List Int} : ∀ {as : List Ak}, (∀ x ∈ as, x.box < bs.length ∧ x.d.Ok) → ∀ (k : Nat) (x : Ak), as[k]? = some x → ((madeOf as bs.length).1.getD k look).ap (bs.getD x.box 0) = (play as bs).1.getD k 0 := by
  intro as
  induction as using snoc_ind with
  | nil => exact fun _ k x h => by simp at h
  | snoc as y ih =>
    intro h k x hk
    have h0 : ∀ z ∈ as, z.box < bs.length ∧ z.d.Ok := fun z hz => h z (List.mem_append_left _ hz)
    have hy := h y (List.mem_append_right _ List.mem_cons_self)
    have e : play (as ++ [y]) bs = stepP (play as bs) y := by unfold play; rw [List.foldl_append] <;> rfl
    rw [e, made_app]
    show (((madeOf as bs.length).1 ++ [(madeOf as bs.length).2.getD y.box look]).getD k look).ap _ = ((play as bs).1 ++ [(play as bs).2.getD y.box 0]).getD k 0
    rw [getD_app, getD_app, made_len.1, play_len.1]
    by_cases c : k = as.length
    · rw [if_pos c, if_pos c]
      have : x = y := by
        rw [c, List.getElem?_append_right (Nat.le_refl _), Nat.sub_self] at hk
        exact (Option.some.inj hk).symm
      subst this
      rw [made_get hy.1 fun z hz => (h0 z hz).1, play_get hy.1 fun z hz => (h0 z hz).1, behs_ap (boxd_ok fun z hz => (h0 z hz).2)]
    · rw [if_neg c, if_neg c]
      have hlt : k < as.length := by
        have := (List.getElem?_eq_some_iff.mp hk).1
        simp at this; omega
      rw [List.getElem?_append_left hlt] at hk
      exact ih h0 k x hk
theorem made_in {n : Nat} : ∀ {as : List Ak}, (∀ x ∈ as, x.d.In (10 ^ 80)) → (∀ d ∈ (madeOf as n).1, d.In (as.length * 10 ^ 80)) ∧ (∀ d ∈ (madeOf as n).2, d.In (as.length * 10 ^ 80)) := by
  intro as
  induction as using snoc_ind with
  | nil => exact fun _ => ⟨(fun d hd => (nomatch hd)), fun d hd => by rw [(List.mem_replicate.mp hd).2]; exact look_in (by simp)⟩
  | snoc as x ih =>
    intro h
    obtain ⟨h1, h2⟩ := ih fun y hy => h y (List.mem_append_left _ hy)
    have hx := h x (List.mem_append_right _ List.mem_cons_self)
    rw [made_app]
    have el : (((as ++ [x]).length : Nat) : Int) = as.length + 1 := by simp
    have le : ((as.length : Nat) : Int) * 10 ^ 80 ≤ (((as ++ [x]).length : Nat) : Int) * 10 ^ 80 := by rw [el]; omega
    have hg : ((madeOf as n).2.getD x.box look).In (as.length * 10 ^ 80) := by
      rw [List.getD_eq_getElem?_getD]
      cases e : (madeOf as n).2[x.box]? with
      | none => exact look_in (by omega)
      | some d => exact h2 d (List.mem_of_getElem? e)
    refine ⟨fun d hd => ?_, fun d hd => ?_⟩
    · rcases List.mem_append.mp (show d ∈ _ ++ [_] from hd) with h3 | h3
      · exact In.le (h1 d h3) le
      · have := List.mem_singleton.mp h3; subst this; exact In.le hg le
    · rcases List.mem_or_eq_of_mem_set (show d ∈ List.set _ _ _ from hd) with h3 | h3
      · exact In.le (h2 d h3) le
      · subst h3
        have := beh_in hg hx (by omega) (by decide)
        refine In.le this ?_
        rw [el]; omega
/-- references to deeds -/
def RefsAt (K : PySem.W.Frag) (H : Hp) (ps : List (Addr × Dd)) : Prop := ∀ x ∈ ps, SqT K H x.1 x.2.vs
theorem RefsAt.same {K : PySem.W.Frag} {H H' : Hp} {ps : List (Addr × Dd)} (e : Same H H') (h : RefsAt K H ps) : RefsAt K H' ps := fun x hx => same_tup e (h x hx)
theorem RefsAt.but {K : PySem.W.Frag} {p : Addr} {ys : List V} {H H' : Hp} {ps : List (Addr × Dd)} (e : But p H H') (hp : H p = some (.lst ys)) (h : RefsAt K H ps) : RefsAt K H' ps := fun x hx => but_tup e hp (h x hx)
theorem refs_get {ps : List (Addr × Dd)} {i : Nat} (h : i < ps.length) : ∃ y, ps[i]? = some y ∧ y ∈ ps ∧ y.2 = (dsOf ps).getD i look ∧ (ps.map fun x => V.ref x.1)[i]? = some (.ref y.1) := by
  refine ⟨ps[i], List.getElem?_eq_getElem h, List.getElem_mem h, ?_, ?_⟩
  · unfold dsOf; rw [List.getD_eq_getElem?_getD, List.getElem?_map, List.getElem?_eq_getElem h] <;> rfl
  · rw [List.getElem?_map, List.getElem?_eq_getElem h] <;> rfl
def refsD (ds : List Dd) : PyData := .tuple (ds.map Toy.pd)
theorem refs_dp {K : PySem.W.Frag} {H : Hp} {T : Addr} {ps : List (Addr × Dd)} (hT : SqT K H T (ps.map fun x => V.ref x.1)) (h : RefsAt K H ps) : Dp K H (.ref T) (refsD (dsOf ps)) := by
  have e : refsD (dsOf ps) = .tuple (ps.map fun x => Toy.pd x.2) := by unfold refsD dsOf; rw [List.map_map] <;> rfl
  rw [e]
  exact .tup hT (dps fun x hx => pd_dp (h x hx))
theorem refs_sh {ds : List Dd} {b : Int} (h : ∀ d ∈ ds, d.In b) (hb : b ≤ 10 ^ 100) (hl : ds.length ≤ 40) : Sh (refsD ds) 2 250000 :=
  Sh.tup (n := 1) (c := 6000) (j := 40) (fun x hx => pd_sh1 (h x hx) hb) (Nat.le_refl _) hl (by decide)
theorem refs_new {n : Nat} {v : V} : (List.replicate n [v]).flatten = List.replicate n v := by
  induction n with
  | zero => rfl
  | succ n ih => rw [List.replicate_succ, List.flatten_cons, ih] <;> rfl
/-- a turn of the row of deeds -/
theorem refs_set {K : PySem.W.Frag} {H : Hp} {L c : Addr} {ps : List (Addr × Dd)} {i : Nat} {d : Dd} {ys : List V} {o : HO} (hL : H L = some (.lst ys)) (h : RefsAt K H ps) (hc : H c = some (.tup d.vs)) : RefsAt K (upd H L o) (ps.set i (c, d)) := fun x hx => by
  rcases List.mem_or_eq_of_mem_set hx with h3 | h3
  · exact but_tup But.upd hL (h x h3)
  · subst h3
    exact SqT.of (by rw [upd_ne (ne_of hc hL (by intro z; cases z))]; exact hc)
theorem dsOf_len {ps : List (Addr × Dd)} {ds : List Dd} (e : dsOf ps = ds) : ps.length = ds.length := by rw [← e]; unfold dsOf; rw [List.length_map]
/-- the two rows: what was ahead, what is made -/
def MadeAt (K : PySem.W.Frag) (H : Hp) (L M : Addr) (st : List Dd × List Dd) : Prop := ∃ ps1 ps2 : List (Addr × Dd), H M = some (.lst (ps1.map fun x => V.ref x.1)) ∧ H L = some (.lst (ps2.map fun x => V.ref x.1)) ∧ dsOf ps1 = st.1 ∧ dsOf ps2 = st.2 ∧ RefsAt K H ps1 ∧ RefsAt K H ps2
theorem MadeAt.new {K : PySem.W.Frag} {H : Hp} {L M : Addr} {ps : List (Addr × Dd)} {st : List Dd} (hL : H L = some (.lst (ps.map fun x => V.ref x.1))) (hM : H M = some (.lst [])) (h : RefsAt K H ps) (e : dsOf ps = st := by unfold dsOf; rw [List.map_replicate] <;> rfl) : MadeAt K H L M ([], st) :=
  ⟨[], ps, hM, hL, rfl, e, (fun x hx => (nomatch hx)), h⟩
theorem MadeAt.turn {K : PySem.W.Frag} {H : Hp} {L M : Addr} {st : List Dd × List Dd} (h : MadeAt K H L M st) {x : Ak} (hb : x.box < st.2.length) :
    ∃ y : Addr × Dd, (∀ ys, H L = some (.lst ys) → ys[x.box]? = some (.ref y.1)) ∧ SqT K H y.1 y.2.vs ∧ y.2 = st.2.getD x.box look ∧
      ∀ (ps1 ps2 : List (Addr × Dd)) (H5 : Hp) (c : Addr), L ≠ M → dsOf ps1 = st.1 → dsOf ps2 = st.2 → RefsAt K H ps1 → RefsAt K H ps2 → H M = some (.lst (ps1.map fun x => V.ref x.1)) → Same (upd H M (.lst (ps1.map (fun x => V.ref x.1) ++ [V.ref y.1]))) H5 →
        H5 L = some (.lst (ps2.map fun x => V.ref x.1)) → H5 c = some (.tup (beh y.2 x.d).vs) → MadeAt K (upd H5 L (.lst ((ps2.map fun x => V.ref x.1).set x.box (.ref c)))) L M (stepM st x) := by
  obtain ⟨p1, p2, hM, hL, e1, e2, r1, r2⟩ := h
  obtain ⟨y, hy, hym, hyd, hyr⟩ := refs_get (ps := p2) (i := x.box) (by rw [dsOf_len e2]; exact hb)
  rw [e2] at hyd
  refine ⟨y, fun ys h => ?_, r2 y hym, hyd, fun ps1 ps2 H5 c nLM f1 f2 g1 g2 hM4 S5 hL5 hc => ?_⟩
  · rw [hL] at h
    cases h
    exact hyr
  · refine ⟨ps1 ++ [y], ps2.set x.box (c, beh y.2 x.d), ?_, ?_, ?_, ?_, ?_, ?_⟩
    · rw [upd_ne nLM.symm, S5 _ _ upd_same, List.map_append] <;> rfl
    · rw [upd_same, List.map_set] <;> rfl
    · show dsOf (ps1 ++ [y]) = st.1 ++ [st.2.getD x.box look]
      rw [← hyd, ← f1]
      unfold dsOf
      rw [List.map_append] <;> rfl
    · show dsOf (ps2.set x.box (c, beh y.2 x.d)) = st.2.set x.box (beh (st.2.getD x.box look) x.d)
      rw [← hyd, ← f2]
      unfold dsOf
      rw [List.map_set]
    · intro z hz
      have hz' : SqT K H z.1 z.2.vs := by
        rcases List.mem_append.mp hz with h3 | h3
        · exact g1 z h3
        · have := List.mem_singleton.mp h3; subst this; exact r2 _ hym
      exact but_tup But.upd hL5 (same_tup S5 (but_tup But.upd hM hz'))
    · exact refs_set hL5 (fun z hz => same_tup S5 (but_tup But.upd hM (g2 z hz))) hc
theorem refs_dp' {K : PySem.W.Frag} {H : Hp} {T : Addr} {ps : List (Addr × Dd)} {ds : List Dd} (e : dsOf ps = ds) (hT : SqT K H T (ps.map fun x => V.ref x.1)) (h : RefsAt K H ps) : Dp K H (.ref T) (refsD ds) := e ▸ refs_dp hT h
theorem AsksAt.but {p : Addr} {ys : List V} {H H' : Hp} {k : Addr} {as : List Ak} {nb : Nat} (e : But p H H') (hp : H p = some (.lst ys)) (h : AsksAt H k as nb) : AsksAt H' k as nb := ⟨e _ _ (ne_of h.1 hp (by intro z; cases z)) h.1, h.2.1, fun x hx => (h.2.2 x hx).but e hp⟩
/-! ### data: rows of numbers, grids, folds by a table -/
def iN (xs : List Nat) : List Int := xs.map fun n : Nat => (n : Int)
theorem iN_at {xs : List Nat} {j n : Nat} (h : xs[j]? = some n) : ((iN xs).map V.int)[j]? = some (.int (n : Nat)) := by
  unfold iN
  rw [List.getElem?_map, List.getElem?_map, h] <;> rfl
theorem iN_len {xs : List Nat} : ((iN xs).map V.int).length = xs.length := by unfold iN; rw [List.length_map, List.length_map]
theorem iN_snoc {xs : List Nat} {n : Nat} : (iN xs).map V.int ++ [.int (n : Nat)] = (iN (xs ++ [n])).map V.int := by unfold iN; rw [List.map_append, List.map_append] <;> rfl
theorem iN_app {xs ys : List Nat} : (iN xs).map V.int ++ (iN ys).map V.int = (iN (xs ++ ys)).map V.int := by unfold iN; rw [List.map_append, List.map_append]
theorem iN_mem {xs : List Nat} {y : V} {i : Nat} (h : ((iN xs).map V.int)[i]? = some y) : ∃ n : Nat, y = .int (n : Nat) ∧ xs[i]? = some n := by
  unfold iN at h
  rw [List.getElem?_map, List.getElem?_map] at h
  cases hx : xs[i]? with
  | none => rw [hx] at h; cases h
  | some n => rw [hx] at h; exact ⟨n, (Option.some.inj h).symm, rfl⟩
structure GridAt (H : Hp) (T : Addr) (rs : List (Addr × List Nat)) (M B : Nat) : Prop where
  top : H T = some (.tup (rs.map fun x => .ref x.1))
  rows : ∀ x ∈ rs, H x.1 = some (.tup ((iN x.2).map V.int)) ∧ x.2.length = M ∧ ∀ e ∈ x.2, e < B
theorem GridAt.same {H H' : Hp} {T : Addr} {rs : List (Addr × List Nat)} {M B : Nat} (e : Same H H') (h : GridAt H T rs M B) : GridAt H' T rs M B :=
  ⟨e _ _ h.top, fun x hx => ⟨e _ _ (h.rows x hx).1, (h.rows x hx).2⟩⟩
def gr (rs : List (Addr × List Nat)) : List (List Nat) := rs.map fun x => x.2
theorem refs_at {rs : List (Addr × List Nat)} {j : Nat} (h : j < rs.length) : (rs.map fun x => V.ref x.1)[j]? = some (.ref rs[j].1) := by
  rw [List.getElem?_map, List.getElem?_eq_getElem h] <;> rfl
theorem gr_at {rs : List (Addr × List Nat)} {j : Nat} (h : j < rs.length) : (gr rs).getD j [] = rs[j].2 := by
  unfold gr
  rw [List.getD_eq_getElem?_getD, List.getElem?_map, List.getElem?_eq_getElem h] <;> rfl
theorem getD_at {xs : List Nat} {j : Nat} (h : j < xs.length) : xs[j]? = some (xs.getD j 0) := by
  rw [List.getD_eq_getElem?_getD, List.getElem?_eq_getElem h] <;> rfl
theorem getD_mem {xs : List Nat} {j : Nat} (h : j < xs.length) : xs.getD j 0 ∈ xs := by
  rw [List.getD_eq_getElem?_getD, List.getElem?_eq_getElem h]
  exact List.getElem_mem h
def fv (tb : List (List Nat)) (ns : List Nat) : Tr → Nat
  | .leaf n => ns.getD n 0
  | .node l r => (tb.getD (fv tb ns l) []).getD (fv tb ns r) 0
def sv (ds tb : List (List Nat)) (ns : List Nat) : Tr → Nat → List Nat
  | .leaf _, s => [s]
  | .node l r, s => sv ds tb ns l s ++ sv ds tb ns r ((ds.getD (fv tb ns l) []).getD s 0)
def Bel (ns : List Nat) (N : Nat) : Prop := ∀ n ∈ ns, n < N
theorem fv_lt {H : Hp} {T : Addr} {rs : List (Addr × List Nat)} {N : Nat} {ns : List Nat} (g : GridAt H T rs N N) (hl : rs.length = N) (hb : Bel ns N) : ∀ {t : Tr} {f : Nat}, IsRow t f → f + t.cnt ≤ ns.length → fv (gr rs) ns t < N
  | .leaf n, f, h, h2 => by
    have e : n = f := h
    subst e
    have h3 : n < ns.length := h2
    exact hb _ (getD_mem h3)
  | .node l r, f, h, h2 => by
    obtain ⟨h3, h4⟩ := h
    have h5 : f + (l.cnt + r.cnt) ≤ ns.length := h2
    have a := fv_lt g hl hb h3 (by omega)
    have b := fv_lt g hl hb h4 (by omega)
    show ((gr rs).getD _ []).getD _ 0 < N
    rw [gr_at (by omega)]
    obtain ⟨_, k1, k2⟩ := g.rows _ (List.getElem_mem (by omega : fv (gr rs) ns l < rs.length))
    exact k2 _ (getD_mem (by omega))
theorem sv_len {ds tb : List (List Nat)} {ns : List Nat} : ∀ {t : Tr} {s : Nat}, (sv ds tb ns t s).length = t.cnt
  | .leaf _, _ => rfl
  | .node l r, s => by
    show (sv ds tb ns l s ++ _).length = l.cnt + r.cnt
    rw [List.length_append, sv_len, sv_len]
theorem sv_in {H : Hp} {T D : Addr} {rs qs : List (Addr × List Nat)} {N S : Nat} {ns : List Nat} (g : GridAt H T rs N N) (hl : rs.length = N) (g2 : GridAt H D qs S S) (hl2 : qs.length = N) (hb : Bel ns N) : ∀ {t : Tr} {f s : Nat}, IsRow t f → f + t.cnt ≤ ns.length → s < S → Bel (sv (gr qs) (gr rs) ns t s) S
  | .leaf n, f, s, h, h2, h3 => by
    intro x hx
    cases List.mem_singleton.mp hx
    exact h3
  | .node l r, f, s, h, h2, h3 => by
    obtain ⟨h4, h5⟩ := h
    have h6 : f + (l.cnt + r.cnt) ≤ ns.length := h2
    have a := fv_lt g hl hb h4 (by omega)
    intro x hx
    rcases List.mem_append.mp hx with h | h
    · exact sv_in g hl g2 hl2 hb h4 (by omega) h3 x h
    · refine sv_in g hl g2 hl2 hb h5 (by omega) ?_ x h
      rw [gr_at (by omega)]
      obtain ⟨_, k1, k2⟩ := g2.rows _ (List.getElem_mem (by omega : fv (gr rs) ns l < qs.length))
      exact k2 _ (getD_mem (by omega))
theorem nat_sh {n : Nat} (h : n ≤ 1000) : Sh (.int (n : Nat)) 0 1921 := int_sh (by omega) (by omega)
theorem nats_sh {xs : List Nat} (h : Bel xs 1000) (hl : xs.length ≤ 60) : Sh (.tuple ((iN xs).map PyData.int)) 1 200000 := by
  refine Sh.tup (n := 0) (c := 1921) (j := 60) (fun x hx => ?_) (Nat.le_refl _) (by unfold iN; rw [List.length_map]; exact hl) (by decide)
  unfold iN at hx
  obtain ⟨n, hn, rfl⟩ := List.mem_map.mp hx
  exact nat_sh (Nat.le_of_lt (h n hn))
end Toy
/-! ### enumerate of a tuple -/
namespace PySem
open Sem (wp)
open AutoSeq1 (wpAny_loadPart')
theorem meets_enumerate_newTu (l : Addr) (items : Array Value) (n : Nat) (dct : Option Addr) (sl : Array (Option Value)) :
    Meets (Builtin.«enumerate.__new__» ⟨[.type "enumerate", .ref l], []⟩) (fun _ R s => s.heap.get? l = some { cls := .type "tuple", dict := dct, data := .seq items n, slots := sl } ∧
      R (.ok (.ret (.ref (s.heap.push { cls := .type "tuple_iterator", data := .fields #[.ref l, .int 0 0] }).objs.size)))
        { s with heap := (s.heap.push { cls := .type "tuple_iterator", data := .fields #[.ref l, .int 0 0] }).push { cls := .type "enumerate", data := .fields #[.none, .bool false, .ref s.heap.objs.size, rawInt 0, .none, .none] } }) :=
  .of_wp fun prog w A R s h => by
    obtain ⟨hp, g, d, tk, os⟩ := s; obtain ⟨hl, h⟩ := h
    have hsub := sub_enumerate
    have hL : Heap.IsTuple (Shared.heap ⟨hp, g, d, tk, os⟩) l items := ⟨_, hl, rfl, n, rfl⟩
    wp_walk using wpAny_loadPart' hl
    refine wpAny_stack_any fun st => wpAny_pure ?_
    split
    · rename_i c _ _ _ _ _
      cases (c == Value.type "enumerate")
      · wp_walk using wpAny_loadPart' hl, wpAny_pyIter_tuple hL
        exact ⟨_, rfl, h⟩
      · wp_walk using wpAny_loadPart' hl, wpAny_pyIter_tuple hL
        exact ⟨_, rfl, h⟩
    · wp_walk using wpAny_loadPart' hl, wpAny_pyIter_tuple hL
      exact ⟨_, rfl, h⟩
theorem call_enumerate_tup {prog : Program} {w : World} {A : Around} {E : Value → Shared → Prop} {s : Shared} {l : Addr} {items : Array Value} {Q : Value → Shared → Prop} (hL : s.heap.IsTuple l items)
    (h : ∀ h', IsEnum h' (s.heap.objs.size + 1) s.heap.objs.size 0 .none → h'.IsTupleIter s.heap.objs.size l 0 → h'.objs.size = s.heap.objs.size + 2 →
      (∀ b o, s.heap.get? b = some o → h'.get? b = some o) → Q (.ref (s.heap.objs.size + 1)) { s with heap := h' }) :
    wpAny (model prog w) A (call (.type "enumerate") [.ref l]) Q E s := by
  obtain ⟨⟨c, dct, dt, sl⟩, hl, hc, n, hd⟩ := hL
  replace hc : c = .type "tuple" := hc
  replace hd : dt = .seq items n := hd
  subst hc hd
  refine callType_new F.called_enumerate (by decide) (F.typeCall_enumerate_1 _) (F.newCall_enumerate_1 _) (fun obj => F.args_object_init_2 obj _) F.entry_enumerate_new
    (meets_enumerate_newTu l items n dct sl) ⟨hl, ?_⟩
  have hz : (s.heap.push { cls := .type "tuple_iterator", data := .fields #[.ref l, .int 0 0] }).objs.size = s.heap.objs.size + 1 := Heap.size_push ..
  show _ ∧ _
  rw [hz]
  have he : IsEnum ((s.heap.push { cls := .type "tuple_iterator", data := .fields #[.ref l, .int 0 0] }).push
      { cls := .type "enumerate", data := .fields #[.none, .bool false, .ref s.heap.objs.size, rawInt 0, .none, .none] }) (s.heap.objs.size + 1) s.heap.objs.size 0 .none := by
    have := Heap.get?_push_size (s.heap.push { cls := .type "tuple_iterator", data := .fields #[.ref l, .int 0 0] })
      (o := { cls := .type "enumerate", data := .fields #[.none, .bool false, .ref s.heap.objs.size, rawInt 0, .none, .none] }) rfl
    rw [hz] at this; exact this
  refine ⟨⟨_, he, rfl⟩, h _ he ⟨_, Heap.get?_push_of_some _ (Heap.get?_push_size _ rfl), rfl, rfl⟩ (by rw [Heap.size_push, hz]) fun b o x => Heap.get?_push_of_some _ (Heap.get?_push_of_some _ x)⟩
end PySem
namespace Toy
open PySem PySem.Spec PyProof.Rows L2
theorem tup_is {h : Heap} {a : Addr} {its : Array Value} (p : IsTup h a its) : h.IsTuple a its := p
/-- the tuple at a as it stands at each turn, each item in a new pair -/
def IteT (K : PySem.W.Frag) (a : Addr) : It :=
  ⟨fun i H => ∃ (xs : List V) (x : V), SqT K H a xs ∧ xs[i]? = some x, fun i H v H' => ∃ T x, v = .ref T ∧ H T = none ∧ H' = upd H T (.tup [.int (i : Nat), x]) ∧ ∀ xs, SqT K H a xs → xs[i]? = some x, fun i H => ∃ xs : List V, SqT K H a xs ∧ xs.length = i⟩
theorem turn_enumTu {P : Program} {w : World} {K : PySem.W.Frag} {elts : List Expr} {kk : Nat} {tpos : Pos} (a e it : Addr) (hai : a ≠ it) :
    Turn P w K (.Tuple elts kk tpos) (IteT K a) [e, it] e (fun i h => (∃ old, IsEnum h e it ((i : Nat) : Int) old) ∧ h.IsTupleIter it a i ∧ e ≠ it ∧ e ≠ a) where
  mem := by simp
  obj := fun i h st b hb => by
    obtain ⟨⟨old, he⟩, ⟨o, ho, hc, hd⟩, _⟩ := st
    have e' : b = e ∨ b = it := by simpa using hb
    rcases e' with z | z
    · rw [z]; exact ⟨_, he, fun v q => nomatch q⟩
    · rw [z]; exact ⟨o, ho, fun v q => by rw [hd] at q; cases q⟩
  keep := fun i h h' st k => let ⟨⟨old, he⟩, hi, hne⟩ := st; ⟨⟨old, k e (by simp) _ he⟩, hi.at fun o q => k it (by simp) o q, hne⟩
  item := by
    intro X hP hw hK hc i pins s σ H E I hf st hg
    subst hP hw hK
    obtain ⟨⟨old, he⟩, hit, hne, hea⟩ := st
    obtain ⟨xs, x, hq, hx⟩ := hg
    obtain ⟨its, rv, p, hz⟩ := I.tuple hq
    obtain ⟨u, hu, ru⟩ := rv.get hx
    have hel : e < s.heap.objs.size := Heap.lt_size he
    have hil : it < s.heap.objs.size := by obtain ⟨_, q, _⟩ := hit; exact Heap.lt_size q
    refine wpAny_pyNext_enum_itemD (Draws.tuple (show X.A.in1.handled = none from I.ok.hd hc) it a hai its.toArray) he ⟨hit, tup_is p⟩ (by have h1 := rv.length; have h2 := (List.getElem?_eq_some_iff.mp hx).1; rw [List.size_toArray]; omega) hne (by simp [hne, hea]) fun x' h' tk hP ho hst' hT hsz hk => ?_
    obtain ⟨hit', ht'⟩ := hst'
    have ex : x' = u := by
      have h1 : its[i]? = some x' := by simpa using hP
      rw [hu] at h1
      exact (Option.some.inj h1).symm
    subst ex
    refine ⟨_, rfl, wpAny_letOwnedTupleGo_enum (s := { s with heap := h', toks := tk + 1 }) ho fun h'' he' sb => ?_⟩
    have hT2 : h''.get? s.heap.objs.size = some { cls := .type "tuple", data := .seq #[.int i tk, x'] } := (sb.2 _ (Nat.ne_of_gt hel)).trans hT
    have new : ObjOk X.prog X.w (upd H s.heap.objs.size (.tup [.int (i : Nat), x])) h'' s.heap.objs.size (.tup [.int (i : Nat), x]) :=
      ⟨by show 2 ≤ sizeLine; decide, [.int i tk, x'], .cons ⟨_, rfl⟩ (.cons ru .nil), ⟨_, hT2, rfl, _, rfl⟩⟩
    have I1 : Inv X pins σ (upd H s.heap.objs.size (.tup [.int (i : Nat), x])) { s with heap := h'', toks := tk + 1 } :=
      I.turnedNew (ch := [e, it]) (fun b ob hb q => (sb.2 b (fun z => hb (by simp [z]))).trans (hk b ob (fun z => hb (by simp [z])) (fun z => hb (by simp [z])) q)) hf (Nat.le_refl _) new
    refine ⟨.ref s.heap.objs.size, _, I1, rfl, ⟨_, x, rfl, I.hok.fresh (Nat.le_refl _), rfl, fun ys hy => by rw [I.tuple_inj hy hq]; exact hx⟩, ⟨⟨x', ?_⟩, hit'.at fun o q => (sb.2 it (Ne.symm hne)).trans q, hne, hea⟩, fun b hb => ?_⟩
    · have e1 : ((i + 1 : Nat) : Int) = (i : Int) + 1 := by omega
      rw [e1]; exact he'
    · have hb' : b < s.heap.objs.size := by
        have e' : b = e ∨ b = it := by simpa using hb
        rcases e' with z | z
        · rw [z]; exact hel
        · rw [z]; exact hil
      rw [upd_ne (Nat.ne_of_lt hb')]
      exact (hf b hb).1
  done := by
    intro X hP hw hK hc i pins s σ H E I hf st hg
    subst hP hw hK
    obtain ⟨⟨old, he⟩, hit, hne, hea⟩ := st
    obtain ⟨xs, hq, hx⟩ := hg
    obtain ⟨its, rv, p, hz⟩ := I.tuple hq
    obtain ⟨f0, f1, f2, f3, f4, f5⟩ := hf it (by simp)
    have hl := rv.length
    have e2 : i = its.toArray.size := by rw [List.size_toArray]; omega
    rw [e2] at hit he
    exact wpAny_pyNext_enum_endD (Draws.tuple (show X.A.in1.handled = none from I.ok.hd hc) it a hai its.toArray) he ⟨hit, tup_is p⟩ fun h' eb => ⟨rfl, I.turned (t' := s.toks) (fun b o hb q => eb b o hb q) f0 f1 f3 f4 f5⟩
  self := fun A i s Q E st h => let ⟨⟨_, he⟩, _⟩ := st; wpAny_pyIter_enum he h
def iEnumT (K : PySem.W.Frag) (ta : TA) : TI := fun σ H R => ta σ H fun vs H1 => ∃ a xs, vs = [.ref a] ∧ SqT K H1 a xs ∧ R (IteT K a) H1
theorem pi_enumT {X : Cx} {e : Expr} {ta : TA} {p pos tpos : Pos} {elts : List Expr} {kk : Nat} (hg : Gl X "enumerate") (hm : X.mg "enumerate" = none) (ha : PA X [e] ta) (hs : starEach [e] X.env = [(false, eval e X.env)] := by rfl) :
    PI X (.Tuple elts kk tpos) (.Call (.Name "enumerate" p) [e] [] pos) (iEnumT X.K ta) := by
  refine ⟨fun pins s σ H R I h => ?_⟩
  refine Call_ (ld_blt I hg hm boot_enumerate (PyProof.Rows.callWith_type1 (thn (ha.run pos pins s σ H _ I h) fun us s1 ⟨vs, H1, I1, r1, q1⟩ => ?_) hs rfl))
  obtain ⟨a, xs, ex, hq, q⟩ := q1
  subst ex
  cases r1 with
  | cons r rr =>
    cases rr
    cases r
    obtain ⟨its, rv, p', hz⟩ := I1.tuple hq
    have hal : a < s1.heap.objs.size := by obtain ⟨o, ho, _⟩ := p'; exact Heap.lt_size ho
    refine call_enumerate_tup (tup_is p') fun h' he hit hsz hk => wpAny_pyIter_enum he ?_
    have I2 : Inv X pins σ H1 { s1 with heap := h' } := I1.kept (t' := s1.toks) hk
    refine ⟨s1.heap.objs.size + 1, [s1.heap.objs.size + 1, s1.heap.objs.size], _, _, H1, rfl, I2, turn_enumTu a (s1.heap.objs.size + 1) s1.heap.objs.size (Nat.ne_of_lt hal), ⟨⟨.none, he⟩, hit, Nat.succ_ne_self _, Nat.ne_of_gt (Nat.lt_succ_of_lt hal)⟩, fun b hb => ?_, q⟩
    have e' : b = s1.heap.objs.size + 1 ∨ b = s1.heap.objs.size := by simpa using hb
    have hle : s1.heap.objs.size ≤ b := by
      rcases e' with z | z
      · rw [z]; exact Nat.le_add_right _ _
      · rw [z]; exact Nat.le_refl _
    exact I1.fpOk hle (I1.hok.fresh hle)
theorem for_enumT {K : PySem.W.Frag} {a : Addr} {xs : List V} {g : TG} {tb : TS} {D : Ends} {σ : L2.St} {H : Hp} (Pv : Nat → L2.St → Hp → Prop) (h0 : Pv 0 σ H) (hl : ∀ i σ H, i ≤ xs.length → Pv i σ H → SqT K H a xs)
    (hs : ∀ (i : Nat) x (T : Addr) σ H, xs[i]? = some x → Pv i σ H → H T = none → g (.ref T) σ (upd H T (.tup [.int i, x])) fun σ2 H2 => tb { D with nx := Pv (i + 1), ct := Pv (i + 1), bk := D.nx } σ2 H2) (hd : ∀ σ H, Pv xs.length σ H → D.nx σ H) :
    ∃ W : Nat → Nat → L2.St → Hp → Prop, (∃ m, W 0 m σ H) ∧ ∀ i m σ H, W i m σ H →
      ((IteT K a).stop i H ∧ D.nx σ H) ∨ ((IteT K a).go i H ∧ ∃ N : L2.St → Hp → Prop, (∀ σ' H', N σ' H' → ∃ m', m' < m ∧ W (i + 1) m' σ' H') ∧ ∀ x H', (IteT K a).yld i H x H' → g x σ H' fun σ2 H2 => tb { D with nx := N, ct := N, bk := D.nx } σ2 H2) := by
  refine ⟨fun i m σ H => m = xs.length - i ∧ i ≤ xs.length ∧ Pv i σ H, ⟨xs.length, by simp, Nat.zero_le _, h0⟩, ?_⟩
  rintro i m σ H ⟨rfl, hi, p⟩
  have q := hl i σ H hi p
  by_cases hlt : i < xs.length
  · refine .inr ⟨⟨xs, xs[i], q, List.getElem?_eq_getElem hlt⟩, Pv (i + 1), fun σ' H' p' => ⟨xs.length - (i + 1), by omega, rfl, hlt, p'⟩, fun x H' y => ?_⟩
    obtain ⟨T, z, rfl, hT, rfl, hz⟩ := y
    exact hs i z T σ H (hz xs q) p hT
  · have e : i = xs.length := by omega
    subst e
    exact .inl ⟨⟨xs, q, rfl⟩, hd σ H p⟩
/-! ### loops over any iterable: the forms one uses -/
theorem lc_it {I : It} {n : Nat} {g : TG} {tt : TT} {te : TE} {vs : List Nat} {σ : L2.St} {H1 : Hp} {D : Addr} {Qd : Hp → Prop} (Pv : Nat → Hp → Prop) (h0 : Pv 0 (upd H1 D (.lst [])))
    (hgo : ∀ i H, i < n → Pv i H → I.go i H) (hst : ∀ H, Pv n H → I.stop n H)
    (hs : ∀ i x H H', i < n → Pv i H → I.yld i H x H' → g x (wipe σ vs) H' fun σ2 H2 => wipe σ2 vs = wipe σ vs ∧ tt σ2 H2 fun b H3 =>
      if b = true then te σ2 H3 fun y H4 => ∃ acc, H4 D = some (.lst acc) ∧ acc.length < sizeLine ∧ Pv (i + 1) (upd H4 D (.lst (acc ++ [y]))) else Pv (i + 1) H3) (hd : ∀ H, Pv n H → Qd H) :
    ∃ W : Nat → Nat → Hp → Prop, (∃ m, W 0 m (upd H1 D (.lst []))) ∧ ∀ i m H, W i m H →
      (I.stop i H ∧ Qd H) ∨ (I.go i H ∧ ∃ Nx : Hp → Prop, (∀ H', Nx H' → ∃ m', m' < m ∧ W (i + 1) m' H') ∧ ∀ x H', I.yld i H x H' → g x (wipe σ vs) H' fun σ2 H2 => wipe σ2 vs = wipe σ vs ∧ tt σ2 H2 fun b H3 =>
        if b = true then te σ2 H3 fun y H4 => ∃ acc, H4 D = some (.lst acc) ∧ acc.length < sizeLine ∧ Nx (upd H4 D (.lst (acc ++ [y]))) else Nx H3) := by
  refine ⟨fun i m H => m = n - i ∧ i ≤ n ∧ Pv i H, ⟨n, by simp, Nat.zero_le _, h0⟩, ?_⟩
  rintro i m H ⟨rfl, hi, p⟩
  by_cases hlt : i < n
  · exact .inr ⟨hgo i H hlt p, Pv (i + 1), fun H' p' => ⟨n - (i + 1), by omega, rfl, hlt, p'⟩, fun x H' y => hs i x H H' hlt p y⟩
  · have e : i = n := by omega
    subst e
    exact .inl ⟨hst H p, hd H p⟩
theorem for_it {I : It} {n : Nat} {g : TG} {tb : TS} {D : Ends} {σ : L2.St} {H : Hp} (Pv : Nat → L2.St → Hp → Prop) (h0 : Pv 0 σ H)
    (hgo : ∀ i σ H, i < n → Pv i σ H → I.go i H) (hst : ∀ σ H, Pv n σ H → I.stop n H)
    (hs : ∀ i x σ H H', i < n → Pv i σ H → I.yld i H x H' → g x σ H' fun σ2 H2 => tb { D with nx := Pv (i + 1), ct := Pv (i + 1), bk := D.nx } σ2 H2) (hd : ∀ σ H, Pv n σ H → D.nx σ H) :
    ∃ W : Nat → Nat → L2.St → Hp → Prop, (∃ m, W 0 m σ H) ∧ ∀ i m σ H, W i m σ H →
      (I.stop i H ∧ D.nx σ H) ∨ (I.go i H ∧ ∃ N : L2.St → Hp → Prop, (∀ σ' H', N σ' H' → ∃ m', m' < m ∧ W (i + 1) m' σ' H') ∧ ∀ x H', I.yld i H x H' → g x σ H' fun σ2 H2 => tb { D with nx := N, ct := N, bk := D.nx } σ2 H2) := by
  refine ⟨fun i m σ H => m = n - i ∧ i ≤ n ∧ Pv i σ H, ⟨n, by simp, Nat.zero_le _, h0⟩, ?_⟩
  rintro i m σ H ⟨rfl, hi, p⟩
  by_cases hlt : i < n
  · exact .inr ⟨hgo i σ H hlt p, Pv (i + 1), fun σ' H' p' => ⟨n - (i + 1), by omega, rfl, hlt, p'⟩, fun x H' y => hs i x σ H H' hlt p y⟩
  · have e : i = n := by omega
    subst e
    exact .inl ⟨hst σ H p, hd σ H p⟩
/-- [.. for i, x in enumerate(xs)] -/
theorem lc_enum {K : PySem.W.Frag} {a : Addr} {xs : List V} {g : TG} {tt : TT} {te : TE} {vs : List Nat} {σ : L2.St} {H1 : Hp} {D : Addr} {Qd : Hp → Prop} (Pv : Nat → Hp → Prop) (h0 : Pv 0 (upd H1 D (.lst []))) (hl : ∀ i H, i ≤ xs.length → Pv i H → SqL K H a xs)
    (hs : ∀ (i : Nat) x (T : Addr) H, xs[i]? = some x → Pv i H → H T = none → g (.ref T) (wipe σ vs) (upd H T (.tup [.int i, x])) fun σ2 H2 => wipe σ2 vs = wipe σ vs ∧ tt σ2 H2 fun b H3 =>
      if b = true then te σ2 H3 fun y H4 => ∃ acc, H4 D = some (.lst acc) ∧ acc.length < sizeLine ∧ Pv (i + 1) (upd H4 D (.lst (acc ++ [y]))) else Pv (i + 1) H3) (hd : ∀ H, Pv xs.length H → Qd H) :
    ∃ W : Nat → Nat → Hp → Prop, (∃ m, W 0 m (upd H1 D (.lst []))) ∧ ∀ i m H, W i m H →
      ((Ite K a).stop i H ∧ Qd H) ∨ ((Ite K a).go i H ∧ ∃ Nx : Hp → Prop, (∀ H', Nx H' → ∃ m', m' < m ∧ W (i + 1) m' H') ∧ ∀ x H', (Ite K a).yld i H x H' → g x (wipe σ vs) H' fun σ2 H2 => wipe σ2 vs = wipe σ vs ∧ tt σ2 H2 fun b H3 =>
        if b = true then te σ2 H3 fun y H4 => ∃ acc, H4 D = some (.lst acc) ∧ acc.length < sizeLine ∧ Nx (upd H4 D (.lst (acc ++ [y]))) else Nx H3) := by
  refine lc_it (I := Ite K a) (n := xs.length) Pv h0 (fun i H hi p => ⟨xs, xs[i], hl i H (Nat.le_of_lt hi) p, List.getElem?_eq_getElem hi⟩) (fun H p => ⟨xs, hl _ H (Nat.le_refl _) p, Nat.le_refl _⟩) ?_ hd
  rintro i x H H' hi p ⟨T, z, rfl, hT, rfl, hz⟩
  exact hs i z T H (hz xs (hl i H (Nat.le_of_lt hi) p)) p hT
theorem for_enum' {K : PySem.W.Frag} {a : Addr} {xs : List V} {g : TG} {tb : TS} {D : Ends} {σ : L2.St} {H : Hp} (Pv : Nat → L2.St → Hp → Prop) (h0 : Pv 0 σ H) (hl : ∀ i σ H, i ≤ xs.length → Pv i σ H → SqL K H a xs)
    (hs : ∀ (i : Nat) x (T : Addr) σ H, xs[i]? = some x → Pv i σ H → H T = none → g (.ref T) σ (upd H T (.tup [.int i, x])) fun σ2 H2 => tb { D with nx := Pv (i + 1), ct := Pv (i + 1), bk := D.nx } σ2 H2) (hd : ∀ σ H, Pv xs.length σ H → D.nx σ H) :
    ∃ W : Nat → Nat → L2.St → Hp → Prop, (∃ m, W 0 m σ H) ∧ ∀ i m σ H, W i m σ H →
      ((Ite K a).stop i H ∧ D.nx σ H) ∨ ((Ite K a).go i H ∧ ∃ N : L2.St → Hp → Prop, (∀ σ' H', N σ' H' → ∃ m', m' < m ∧ W (i + 1) m' σ' H') ∧ ∀ x H', (Ite K a).yld i H x H' → g x σ H' fun σ2 H2 => tb { D with nx := N, ct := N, bk := D.nx } σ2 H2) := by
  refine for_it (I := Ite K a) (n := xs.length) Pv h0 (fun i σ H hi p => ⟨xs, xs[i], hl i σ H (Nat.le_of_lt hi) p, List.getElem?_eq_getElem hi⟩) (fun σ H p => ⟨xs, hl _ σ H (Nat.le_refl _) p, Nat.le_refl _⟩) ?_ hd
  rintro i x σ H H' hi p ⟨T, z, rfl, hT, rfl, hz⟩
  exact hs i z T σ H (hz xs (hl i σ H (Nat.le_of_lt hi) p)) p hT
/-- xs[i] of a list, as a value -/
theorem get_listI {X : Cx} : PGet X (rIxL X.K) := by
  intro pins s σ H o i ov iv Q I ro ri h
  obtain ⟨p, xs, k, z, rfl, rfl, hq, he, q⟩ := h
  cases ro
  obtain ⟨t, rfl⟩ := ri
  obtain ⟨its, r, pl, hz⟩ := I.list hq
  obtain ⟨j, h1, h2, h3, h4, h5⟩ := atI_get he
  obtain ⟨w, ew, rw'⟩ := r.get h2
  have hl := r.length
  have hn := line63
  have fin : EP X pins σ Q w s := ⟨z, H, I, rw', q⟩
  by_cases h0 : 0 ≤ k
  · have hj : k.toNat = j := by
      rw [seqIndex_of h0 h5] at h1
      exact Option.some.inj h1
    exact wpAny_getItem_list pl.isList h0 (by omega) (by rw [hj]; simpa using ew) fin
  · have hj : (k + (its.toArray.size : Int)).toNat = j := by
      rw [seqIndex_neg (by omega) h4] at h1
      rw [List.size_toArray, ← hl]
      exact Option.some.inj h1
    exact wpAny_getItem_list_neg pl.isList (by omega) (by rw [List.size_toArray] <;> omega) (by omega) (by rw [hj]; simpa using ew) fin
end Toy
/-! ### data that is compared: no truths in it -/
namespace Toy
open PySem PySem.Spec PyProof.Rows L2
mutual
def nb : PyData → Bool
  | .none => true
  | .bool _ => false
  | .int _ => true
  | .str _ => true
  | .list ds => nbs ds
  | .tuple ds => nbs ds
  | .dict _ => false
def nbs : List PyData → Bool
  | [] => true
  | d :: ds => nb d && nbs ds
end
theorem nbs_of : ∀ {ds : List PyData}, (∀ d ∈ ds, nb d = true) → nbs ds = true
  | [], _ => by simp [nbs]
  | d :: ds, h => by simp [nbs, h d List.mem_cons_self, nbs_of (ds := ds) fun x hx => h x (List.mem_cons_of_mem _ hx)]
mutual
theorem eqv_nb : ∀ d e : PyData, nb d = true → nb e = true → PyData.eqv d e = true → d = e
  | .none, e, _, h, q => by cases e <;> simp_all [PyData.eqv, nb]
  | .int i, e, _, h, q => by cases e <;> simp_all [PyData.eqv, nb]
  | .str x, e, _, h, q => by cases e <;> simp_all [PyData.eqv, nb]
  | .bool _, _, h, _, _ => by simp [nb] at h
  | .dict _, _, h, _, _ => by simp [nb] at h
  | .list ds, e, h, g, q => by
    cases e with
    | list es =>
      rw [PyData.eqv] at q
      exact congrArg PyData.list (eqvs_nb ds es (by simpa [nb] using h) (by simpa [nb] using g) q)
    | _ => simp [PyData.eqv] at q
  | .tuple ds, e, h, g, q => by
    cases e with
    | tuple es =>
      rw [PyData.eqv] at q
      exact congrArg PyData.tuple (eqvs_nb ds es (by simpa [nb] using h) (by simpa [nb] using g) q)
    | _ => simp [PyData.eqv] at q
theorem eqvs_nb : ∀ ds es : List PyData, nbs ds = true → nbs es = true → PyData.eqvAll ds es = true → ds = es
  | [], [], _, _, _ => rfl
  | [], _ :: _, _, _, q => by simp [PyData.eqvAll] at q
  | _ :: _, [], _, _, q => by simp [PyData.eqvAll] at q
  | d :: ds, e :: es, h, g, q => by
    simp only [nbs, Bool.and_eq_true] at h g
    simp only [PyData.eqvAll, Bool.and_eq_true] at q
    rw [eqv_nb d e h.1 g.1 q.1, eqvs_nb ds es h.2 g.2 q.2]
end
structure Ly (n : Nat) (d : PyData) : Prop where
  can : d.canLay0 = true
  dep : d.depth ≤ n
  no : nb d = true
theorem Ly.non {n : Nat} : Ly n .none := ⟨by simp [PyData.canLay0], by simp [PyData.depth], by simp [nb]⟩
theorem Ly.int {n : Nat} {i : Int} : Ly n (.int i) := ⟨by simp [PyData.canLay0], by simp [PyData.depth], by simp [nb]⟩
theorem Ly.str {n : Nat} {x : Str} (h : (PyData.str x).canLay0 = true := by decide +kernel) : Ly n (.str x) := ⟨h, by simp [PyData.depth], by simp [nb]⟩
theorem Ly.mono {n m : Nat} {d : PyData} (a : Ly n d) (h : n ≤ m) : Ly m d := ⟨a.can, Nat.le_trans a.dep h, a.no⟩
theorem can_all : ∀ {ds : List PyData}, (∀ d ∈ ds, d.canLay0 = true) → PyData.canLayAll0 ds = true
  | [], _ => by simp [PyData.canLayAll0]
  | d :: ds, h => by simp [PyData.canLayAll0, h d List.mem_cons_self, can_all (ds := ds) fun x hx => h x (List.mem_cons_of_mem _ hx)]
theorem dep_all {n : Nat} : ∀ {ds : List PyData}, (∀ d ∈ ds, d.depth ≤ n) → PyData.depthAll ds ≤ n
  | [], _ => by simp [PyData.depthAll]
  | d :: ds, h => by
    have h1 := h d List.mem_cons_self
    have h2 := dep_all (ds := ds) fun x hx => h x (List.mem_cons_of_mem _ hx)
    simp only [PyData.depthAll]
    omega
theorem Ly.lst {n : Nat} {ds : List PyData} (h : ∀ d ∈ ds, Ly n d) : Ly (n + 1) (.list ds) :=
  ⟨by simp only [PyData.canLay0]; exact can_all fun d hd => (h d hd).can, by simp only [PyData.depth]; have := dep_all fun d hd => (h d hd).dep; omega, by simp only [nb]; exact nbs_of fun d hd => (h d hd).no⟩
theorem Ly.tup {n : Nat} {ds : List PyData} (h : ∀ d ∈ ds, Ly n d) : Ly (n + 1) (.tuple ds) :=
  ⟨by simp only [PyData.canLay0]; exact can_all fun d hd => (h d hd).can, by simp only [PyData.depth]; have := dep_all fun d hd => (h d hd).dep; omega, by simp only [nb]; exact nbs_of fun d hd => (h d hd).no⟩
theorem Ly.tupI {ns : List Int} : Ly 1 (.tuple (ns.map PyData.int)) := .tup fun d hd => by obtain ⟨i, _, rfl⟩ := List.mem_map.mp hd; exact .int
theorem Ly.lstI {ns : List Int} : Ly 1 (.list (ns.map PyData.int)) := .lst fun d hd => by obtain ⟨i, _, rfl⟩ := List.mem_map.mp hd; exact .int
theorem Ly.tup2 {n : Nat} {a b : PyData} (ha : Ly n a) (hb : Ly n b) : Ly (n + 1) (.tuple [a, b]) := .tup fun d hd => by
  rcases List.mem_cons.mp hd with rfl | hd
  · exact ha
  · cases List.mem_singleton.mp hd; exact hb
theorem Ly.sh {n : Nat} {d : PyData} (a : Ly n d) (h : n ≤ 64 := by decide) : SeqAt.shaped d = true := by
  show (d.canLay0 && decide (d.depth ≤ 64)) = true
  rw [a.can, decide_eq_true (Nat.le_trans a.dep h)] <;> rfl
theorem Ly.refl {n : Nat} {d : PyData} (a : Ly n d) (h : n ≤ 64 := by decide) : PyData.eqv d d = true := SeqAt.eqv_refl _ (SeqAt.canLay_of_shaped (a.sh h))
theorem Ly.eq {n m : Nat} {d e : PyData} (a : Ly n d) (b : Ly m e) (h : PyData.eqv d e = true) : d = e := eqv_nb d e a.no b.no h
theorem Ly.ne {n m : Nat} {d e : PyData} (a : Ly n d) (b : Ly m e) (h : d ≠ e) : PyData.eqv d e = false := by
  cases c : PyData.eqv d e with
  | false => rfl
  | true => exact absurd (a.eq b c) h
theorem dpAll_of {K : PySem.W.Frag} {H : Hp} : ∀ {xs : List V} {ds : List PyData}, xs.length = ds.length → (∀ (i : Nat) (x : V) (d : PyData), xs[i]? = some x → ds[i]? = some d → Dp K H x d) → DpAll K H xs ds
  | [], [], _, _ => .nil
  | [], _ :: _, h, _ => by simp at h
  | _ :: _, [], h, _ => by simp at h
  | x :: xs, d :: ds, h, q => .cons (q 0 x d rfl rfl) (dpAll_of (by simpa using h) fun i y e h1 h2 => q (i + 1) y e (by simpa using h1) (by simpa using h2))
theorem dp_tup2 {K : PySem.W.Frag} {H : Hp} {p : Addr} {x y : V} {a b : PyData} (h : SqT K H p [x, y]) (ha : Dp K H x a) (hb : Dp K H y b) : Dp K H (.ref p) (.tuple [a, b]) := .tup h (.cons ha (.cons hb .nil))
end Toy
/-! ### dicts by tuples: {t: v}, tuple(d), dict(rows) -/
namespace Toy
open PySem PySem.Spec PyProof.Rows L2
open Sem (wp)
theorem RoomG.u1 {k : Nat} {A : Around} (r : RoomG k A) : A.units + 1 < cLine := by have := r.units; omega
theorem RoomG.u2 {k : Nat} {A : Around} (r : RoomG k A) : A.units + 2 < cLine := by have := r.units; omega
/-- a dict of one row, its key a tuple -/
def tDispT (tk tv : TE) : TE := fun σ H Q => ∀ p, H p = none → tk σ (upd H p (.dT [])) fun x H1 => tv σ H1 fun y H2 => ∃ (b : Addr) (k : List Key), x = .ref b ∧ H2 p = some (.dT []) ∧ H2 b = some (.tup (k.map kV)) ∧ Q (.ref p) (upd H2 p (.dT [(k, y)]))
def dispQ (p : Addr) (Q : VK) : List (V × V) → Hp → Prop
  | [(x, y)], H2 => ∃ (b : Addr) (k : List Key), x = .ref b ∧ H2 p = some (.dT []) ∧ H2 b = some (.tup (k.map kV)) ∧ Q (.ref p) (upd H2 p (.dT [(k, y)]))
  | _, _ => False
theorem pe_dispT {X : Cx} {pos : Pos} {k v : Expr} {tk tv : TE} (hu : X.A.units + 1 < cLine) (hk : PE X k tk) (hv : PE X v tv) : PE X (.Dict [some k] [v] pos) (tDispT tk tv) := by
  refine ⟨fun pins s σ H Q I q => ?_⟩
  have hn := I.hok.fresh (Nat.le_refl s.heap.objs.size)
  have I1 := I.laid (a := s.heap.objs.size) (o := .dT []) (h' := s.heap.push { cls := .type "dict", data := .dict #[] }) (t' := s.toks) (fun _ _ q => Heap.get?_push_of_some _ q) (Nat.le_refl _) (dt_empty s.heap I.big)
  have R := (pps_cons (pos := pos) hk hv pps_nil).run pins _ σ _ (dispQ s.heap.objs.size Q) I1 (q _ hn)
  have hsh := zip_pairTrees [some k] [v] X.env pos rfl rfl
  have hlen : (pairTrees [some k] [v] X.env pos).length ≤ 15 := by rw [pairTrees_length _ _ _ _ rfl rfl]; show 1 ≤ 15; decide
  have h0 : pairTrees [some k] [v] X.env pos ≠ [] := fun e => by
    have := pairTrees_length [some k] [v] X.env pos rfl rfl
    rw [e] at this
    cases this
  rw [arm_eval_Dict, hsh, dictDisplay_pairs _ h0 (by omega)]
  refine wpAny_bind (wpAny_standAt (wpAny_bind (wpAny_subDictH (knd := tupleKind (mixKind X.prog X.w)) (Q := fun d s' => wpAny (model X.prog X.w) X.A (pure (Value.ref d)) (EP X pins σ Q) X.xe s') (show (tupleKind (mixKind X.prog X.w)).room X.A from (by show X.A.units < cLine; omega)) hlen
    (wpAny_mono R (fun vs s1 h1 => ?_) fun _ _ e => e))))
  obtain ⟨ps, H2, I2, rel, qq⟩ := h1
  match ps, rel, qq with
  | [(x, y)], rel, qq =>
    obtain ⟨b, ky, rfl, e, eb, q2⟩ := qq
    cases rel with
    | @cons p1 p2 _ _ hr tl =>
      cases tl
      obtain ⟨u, w⟩ := p2
      obtain ⟨r1, r2⟩ := hr
      cases (show u = Value.ref b from r1)
      obtain ⟨z, hd, xs, r0, dd⟩ := dt_of I2.hok e
      cases r0
      refine ⟨[(ky, b, w)], ⟨rfl, rfl, key_of I2.hok eb, trivial⟩, dd, fun h' tk dd' hs => wpAny_pure ⟨.ref s.heap.objs.size, _, ?_, rfl, q2⟩⟩
      obtain ⟨o, es, ep, hq, h2, h3, h4, _, h5⟩ := dd'
      refine d_write I2 (by rw [e]; exact True.intro) hs ⟨o, hq⟩ ⟨by show 1 ≤ sizeLine; decide, hd, [(ky, b, w)], .cons ⟨rfl, ?_, r2⟩ .nil, o, es, ep, hq, h2, h3, h4, h5⟩
      rw [upd_ne (ne_of eb e (fun z => nomatch z))]
      exact eb
/-- the keys of a dict by tuples, as a tuple -/
theorem keysDT {X : Cx} {pins : List (Addr × Obj)} {σ : L2.St} {H : Hp} {s : Shared} {d : Addr} {kvs : List (List Key × V)} (I : Inv X pins σ H s) (hd : H d = some (.dT kvs)) : kvs.length ≤ sizeLine ∧ (d == sysModules) = false ∧
    ∃ (ks : List (List Key × Addr × Value)) (o : Obj) (es : Array DictEntry) (ep : Nat), KT H kvs ks ∧ s.heap.get? d = some o ∧ o.ExactDict ∧ o.data = .dict es ep ∧ es.toList = ks.map (entryOfKey (tupleKind (mixKind X.prog X.w))) := by
  obtain ⟨z, hs, ks, pr, o, es, ep, ho, hx, hdt, he, _⟩ := (show ObjOk X.prog X.w H s.heap d (.dT kvs) from I.hok d _ hd)
  exact ⟨z, hs, ks, o, es, ep, pr, ho, hx, hdt, he⟩
theorem accDT {X : Cx} {es : Array DictEntry} {ks : List (List Key × Addr × Value)} (he : es.toList = ks.map (entryOfKey (tupleKind (mixKind X.prog X.w)))) {acc : Array Value}
    (it : ItemsOf (fun i v => ∃ en : DictEntry, es[i]? = some en ∧ v = en.key) acc es.size) : acc.toList = (ks.map fun x => x.2.1).map Value.ref := by
  have l1 : es.size = ks.length := size_of_entries he
  have hl : acc.toList.length = ks.length := by rw [Array.length_toList, it.1]; exact l1
  refine List.ext_getElem? fun j => ?_
  rw [List.map_map, List.getElem?_map]
  cases hj : acc.toList[j]? with
  | none =>
    have h1 := List.getElem?_eq_none_iff.mp hj
    rw [List.getElem?_eq_none (by omega)] <;> rfl
  | some v =>
    obtain ⟨en, hen, hv⟩ := it.2 j v (by rw [← Array.getElem?_toList]; exact hj)
    have qe := entry_at he j
    rw [hen] at qe
    cases hb : ks[j]? with
    | none =>
      rw [hb] at qe
      exact nomatch (show some en = none from qe)
    | some b =>
      rw [hb] at qe
      rw [hv, Option.some.inj qe] <;> rfl
theorem code_tup_dT {X : Cx} {pins : List (Addr × Obj)} {σ : L2.St} {H : Hp} {s : Shared} (I : Inv X pins σ H s) {A : Around} {E : Value → Shared → Prop} (hh : A.handled = none) {d : Addr} {kvs : List (List Key × V)} (hd : H d = some (.dT kvs)) {Q₁ : Value → Shared → Prop}
    (q : ∀ s' T bs, Inv X pins σ (upd H T (.tup (bs.map V.ref))) s' → s'.TypeIs (.ref T) "tuple" → H T = none → IsKeys H kvs bs → Q₁ (.ref T) s') :
    codeAny (model X.prog X.w) A (.call (.builtin "tuple.__new__") ⟨[.type "tuple", .ref d], []⟩) (wants Q₁ E) s := by
  obtain ⟨z, hs, ks, o, es, ep, pr, ho, hx, hdt, he⟩ := keysDT I hd
  have l2 : kvs.length = ks.length := Paired.length pr
  have l1 : es.size = ks.length := size_of_entries he
  have hes : es.size ≤ sizeLine := by omega
  refine codeAny_of_tree ?_
  show wpAny _ A.in1 (do checkBuiltinCall "tuple.__new__" ⟨[.type "tuple", .ref d], []⟩; again (.builtin "tuple.__new__" ⟨[.type "tuple", .ref d], []⟩)) _ _ s
  refine wpAny_bind (wpAny_of_eq (F.newCall_tuple_1 _) (wpAny_pure ⟨plainId_quiet F.plain_tuple_new _, codeAny_builtin F.entry_tuple_new ?_⟩))
  rw [Around.under_plainId F.plain_tuple_new _]
  have hsub := sub_tuple_self
  have hinit := init_tuple_lookup
  have hmh := madeHere_tuple
  have hTI : s.TypeIs (.ref d) "dict" := ⟨o, ho, hx.1⟩
  have hh1 : A.in1.handled = none := hh
  wp_walk using wpAny_typeOf hTI, PySem.W.kdu_collect (A := A.in1) (kdl_raw hs hx hdt) hh1 ho hes
  intro h' tk acc kp it
  have ea := accDT he it
  have hsl : acc.toList.length ≤ sizeLine := by rw [ea, List.length_map, List.length_map]; omega
  show wpAny _ _ (Builtin.Tuple.tupleExact acc.toList.toArray >>= fun v => ret v) _ _ _
  unfold Builtin.Tuple.tupleExact
  refine wpAny_bind (wpAny_newObj_type ?_ (by show acc.toList.toArray.size ≤ sizeLine; simpa using hsl))
  refine wpAny_pure ?_
  have I' : Inv X pins σ H { s with heap := h', toks := tk } := I.kept (t' := tk) kp
  have hfr' : H h'.objs.size = none := I'.hok.fresh (Nat.le_refl _)
  have gT : (h'.push { cls := .type "tuple", data := .seq acc.toList.toArray }).get? h'.objs.size = some { cls := .type "tuple", data := .seq acc.toList.toArray } := Heap.get?_push_size _ rfl
  have rv : Vals ((ks.map fun x => x.2.1).map V.ref) acc.toList := by rw [ea]; exact vals_refs _
  have I2 : Inv X pins σ (upd H h'.objs.size (.tup ((ks.map fun x => x.2.1).map V.ref))) { s with heap := h'.push { cls := .type "tuple", data := .seq acc.toList.toArray }, toks := tk } :=
    I'.laid (t' := tk) (fun b u e => Heap.get?_push_of_some _ e) (Nat.le_refl _) ⟨by rw [rv.length]; exact hsl, acc.toList, rv, ⟨_, gT, rfl, _, rfl⟩⟩
  exact q _ _ _ I2 ⟨_, gT, rfl⟩ hfr' (isKeys_of pr)
def rTupDT : List V → Hp → VK → Prop := fun xs H Q => ∃ d kvs, xs = [V.ref d] ∧ H d = some (.dT kvs) ∧ ∀ T bs, H T = none → IsKeys H kvs bs → Q (.ref T) (upd H T (.tup (bs.map V.ref)))
theorem call_tup_dT {X : Cx} (hcalm : X.calm = true) : CallR X (.type "tuple") rTupDT := by
  intro pins s σ H xs us Q I r h
  obtain ⟨d, kvs, rfl, hd, q⟩ := h
  obtain ⟨u, rfl, rx⟩ := r.one
  cases rx
  have hh : X.A.in1.handled = none := show X.A.handled = none from I.ok.hd hcalm
  refine callType_codes (Q₁ := fun obj s₁ => s₁.TypeIs obj "tuple" ∧ EP X pins σ Q obj s₁) F.called_tuple (F.typeCall_tuple_1 _) F.entry_object_init
    (code_tup_dT I (A := X.A.in1) hh hd fun s' T bs I' hty hn hk => ⟨hty, .ref T, _, I', rfl, q T bs hn hk⟩) fun obj s₁ h₁ => ?_
  exact ⟨h₁.1, F.args_object_init_2 obj _, object_init_meets F.called_tuple.init.lookup F.called_tuple.made (by decide) X.prog X.w X.A.in1 _ s₁ ⟨h₁.1, rfl, h₁.2⟩⟩
/-- rows of a key tuple and a value -/
def RowsDT (H : Hp) (ps : List Addr) (rows : List (List Key × Addr × V)) : Prop := ps.length = rows.length ∧ ∀ (j : Nat) (p : Addr) (q : List Key × Addr × V), ps[j]? = some p → rows[j]? = some q → H p = some (.tup [.ref q.2.1, q.2.2]) ∧ H q.2.1 = some (.tup (q.1.map kV))
def putsK (acc : List (List Key × V)) (rows : List (List Key × Addr × V)) : List (List Key × V) := rows.foldl (fun acc q => putK acc q.1 q.2.2) acc
theorem putsK_len : ∀ (rows : List (List Key × Addr × V)) (acc : List (List Key × V)), (putsK acc rows).length ≤ acc.length + rows.length
  | [], acc => by show acc.length ≤ acc.length + 0; omega
  | q :: rows, acc => by
    have h1 := putsK_len rows (putK acc q.1 q.2.2)
    have h2 := length_putK acc q.1 q.2.2
    show (putsK (putK acc q.1 q.2.2) rows).length ≤ _
    rw [List.length_cons]
    omega
abbrev RV : List (List Key × Addr × V) → List (List Key × Addr × Value) → Prop := Paired fun q p => p.1 = q.1 ∧ p.2.1 = q.2.1 ∧ RelV q.2.2 p.2.2
theorem rows_vals {X : Cx} {pins : List (Addr × Obj)} {σ : L2.St} {H : Hp} {s : Shared} (I : Inv X pins σ H s) : ∀ {ps : List Addr} {rows : List (List Key × Addr × V)}, RowsDT H ps rows →
    ∃ prs : List (List Key × Addr × Value), RV rows prs ∧ ∀ (j : Nat) (q : List Key × Addr × Value), prs[j]? = some q → ∃ b : Addr, ps[j]? = some b ∧ IsTup s.heap b #[.ref q.2.1, q.2.2]
  | [], [], _ => ⟨[], .nil, fun j q h => by simp at h⟩
  | [], _ :: _, h => by simp [RowsDT] at h
  | _ :: _, [], h => by simp [RowsDT] at h
  | p :: ps, q :: rows, h => by
    obtain ⟨prs, r, hp⟩ := rows_vals I (ps := ps) (rows := rows) ⟨by simpa using h.1, fun j a b e1 e2 => h.2 (j + 1) a b (by simpa using e1) (by simpa using e2)⟩
    obtain ⟨h1, _⟩ := h.2 0 p q rfl rfl
    obtain ⟨its, rv, ht, _⟩ := I.tuple (SqT.of (K := X.K) h1)
    obtain ⟨u, y, ei, ru, ry⟩ := vals2 rv
    subst ei
    cases (show u = Value.ref q.2.1 from ru)
    refine ⟨(q.1, q.2.1, y) :: prs, .cons ⟨rfl, rfl, ry⟩ r, fun j z e => ?_⟩
    cases j with
    | zero => cases (Option.some.inj e); exact ⟨p, rfl, ht⟩
    | succ j => exact hp j z (by simpa using e)
theorem kt_puts {H : Hp} {rows : List (List Key × Addr × V)} {prs : List (List Key × Addr × Value)} {acc : List (List Key × V)} {xs : List (List Key × Addr × Value)} (r : RV rows prs) (hk : ∀ q ∈ rows, H q.2.1 = some (.tup (q.1.map kV))) (k : KT H acc xs) : KT H (putsK acc rows) (storedAllH xs prs) := by
  unfold RV at r
  induction r generalizing acc xs with
  | nil => exact k
  | @cons q p qs ps' h t ih =>
    obtain ⟨h1, h2, h3⟩ := h
    refine ih (acc := putK acc q.1 q.2.2) (xs := storedH xs p.1 p.2.1 p.2.2) (fun z hz => hk z (List.mem_cons_of_mem _ hz)) ?_
    rw [h1, h2]
    exact k.put q.1 (hk q List.mem_cons_self) h3
theorem call_dictPT {X : Cx} (hcalm : X.calm = true) (hu : X.A.units + 2 < cLine) : CallR X (.type "dict") (fun xs H Q => ∃ (a : Addr) (ps : List Addr) (rows : List (List Key × Addr × V)), xs = [.ref a] ∧ H a = some (.lst (ps.map V.ref)) ∧ RowsDT H ps rows ∧
    ∀ p, H p = none → Q (.ref p) (upd H p (.dT (putsK [] rows)))) := by
  intro pins s σ H xs us Q I r h
  obtain ⟨a, ps, rows, rfl, ha, hr, q⟩ := h
  obtain ⟨u, rfl, rx⟩ := r.one
  cases rx
  obtain ⟨its, rv, pl, hz⟩ := I.list (SqL.of (K := X.K) ha)
  have ei := L2.refs_at rv
  subst ei
  rw [List.length_map] at hz
  obtain ⟨prs, rel, hpr⟩ := rows_vals I hr
  have hl : prs.length = ps.length := by rw [← Paired.length rel, hr.1]
  obtain ⟨o, n, ho, hc, hd, hdat⟩ := pl
  have tupk : ∀ q ∈ rows, H q.2.1 = some (.tup (q.1.map kV)) := fun q hq => by
    obtain ⟨j, hj, rfl⟩ := List.getElem_of_mem hq
    exact (hr.2 j (ps[j]'(by rw [hr.1]; exact hj)) _ (List.getElem?_eq_getElem _) (List.getElem?_eq_getElem hj)).2
  have keyp : ∀ p ∈ prs, IsTupleKey (mixKind X.prog X.w) s.heap p.1 p.2.1 := by
    have : ∀ {rows : List (List Key × Addr × V)} {prs : List (List Key × Addr × Value)}, RV rows prs → (∀ q ∈ rows, H q.2.1 = some (.tup (q.1.map kV))) → ∀ p ∈ prs, IsTupleKey (mixKind X.prog X.w) s.heap p.1 p.2.1 := by
      intro rows prs r
      induction r with
      | nil => intro _ p hp; exact absurd hp List.not_mem_nil
      | @cons q p qs ps' h t ih =>
        intro hk z hz
        rcases List.mem_cons.mp hz with rfl | hz
        · rw [h.1, h.2.1]
          exact key_of I.hok (hk q List.mem_cons_self)
        · exact ih (fun y hy => hk y (List.mem_cons_of_mem _ hy)) z hz
    exact this rel tupk
  refine call_dict_pairsH (knd := tupleKind (mixKind X.prog X.w)) (ps := prs) (PairArg.list a (ps.map Value.ref).toArray (fun j => ps.getD j 0) (prs.map fun q => (.ref q.2.1, q.2.2))) (I.ok.hd hcalm) (show X.A.units + 1 + 1 < cLine by omega)
    ⟨⟨o, n, ho, hc, hd, hdat⟩, ?_, ?_⟩ ⟨?_, ?_⟩ ?_ (by rw [List.length_map, hl]; exact hz) fun h' tk hd' k => ?_
  · simp [hl]
  · intro j k v e
    rw [List.getElem?_map] at e
    obtain ⟨z, hz2, e2⟩ := Option.map_eq_some_iff.mp e
    cases e2
    obtain ⟨b, e1, ht⟩ := hpr j z hz2
    have ej : ps.getD j 0 = b := by rw [List.getD_eq_getElem?_getD, e1] <;> rfl
    show _ = some (Value.ref (ps.getD j 0)) ∧ PairAt s.heap (ps.getD j 0) _ _
    rw [ej]
    exact ⟨by simp [e1], .inl ht⟩
  · rw [List.length_map]
  · intro i key v e
    have e' : (prs.map fun q => ((Value.ref q.2.1, q.2.2) : Value × Value))[i]? = some (key, v) := e
    rw [List.getElem?_map] at e'
    obtain ⟨z, hz2, e2⟩ := Option.map_eq_some_iff.mp e'
    cases e2
    exact ⟨z.1, z.2.1, hz2, rfl⟩
  · intro h' hk x hx
    obtain ⟨ob, its2, n2, ho2, r2⟩ := keyp x hx
    exact ⟨ob, its2, n2, hk _ _ (Nat.ne_of_lt (Heap.lt_size ho2)) (by simp) ho2, r2⟩
  · have hm : (s.heap.objs.size == sysModules) = false := beq_eq_false_iff_ne.mpr (Nat.ne_of_gt I.big)
    have hn := I.hok.fresh (Nat.le_refl s.heap.objs.size)
    refine ⟨.ref s.heap.objs.size, upd H s.heap.objs.size (.dT (putsK [] rows)), I.laid (t' := tk) (fun b o e => k b o (by simp) e) (Nat.le_refl _) (show ObjOk X.prog X.w _ _ _ (.dT (putsK [] rows)) from ⟨?_, hm, storedAllH [] prs, ?_, ?_⟩), rfl, q _ hn⟩
    · have := putsK_len rows []
      rw [List.length_nil, Nat.zero_add, ← hr.1] at this
      omega
    · exact (kt_puts rel tupk .nil).keeps fun b ys e => by rw [upd_ne (ne_of_none e hn)]; exact e
    · obtain ⟨o, es, ep, hq, h2, h3, h4, _, h5⟩ := hd'
      exact ⟨o, es, ep, hq, h2, h3, h4, h5⟩
/-! ### tuple(d.values()), list(d.values()), d a dict by tuples -/
/-- the view of the values of the dict at d -/
def valsO (p d : Addr) : HO := .ext fun h => h.IsValuesView p d
theorem valsO_of {P : Program} {w : World} {H : Hp} {h : Heap} {p d : Addr} (e : h.get? p = some { cls := .type "dict_values", data := .fields #[.ref d] }) : ObjOk P w H h p (valsO p d) :=
  ⟨⟨_, e, rfl, rfl⟩, ⟨_, e⟩, fun h1 h2 x k => by obtain ⟨o, ho, r⟩ := x; exact ⟨o, k o ho, r⟩⟩
def rValT : V → List V → Hp → VK → Prop := fun x xs H Q => ∃ a kvs, x = V.ref a ∧ xs = [] ∧ H a = some (.dT kvs) ∧ ∀ p, H p = none → Q (.ref p) (upd H p (valsO p a))
theorem mt_valT {X : Cx} : MtR X "dict.values" rValT := by
  intro pins s σ H x xs v us Q I rx rxs h
  obtain ⟨a, kvs, rfl, rfl, ha, q⟩ := h
  cases rx
  cases rxs
  obtain ⟨_, hs, ks, o, es, ep, _, ho, hx, hdt, _⟩ := keysDT I ha
  have hn : H s.heap.objs.size = none := I.hok.fresh (Nat.le_refl _)
  refine call_meetsIn PySem.F.slot_dict_values (T := "dict") ⟨o, ho, hx.1⟩ PySem.F.entry_dict_values (PySem.F.args_dict_values_1 _) (PySem.meets_dict_values_raw a hs) ⟨⟨es, ep, o, ho, hx, hdt⟩, ?_⟩
  exact ⟨.ref s.heap.objs.size, upd H s.heap.objs.size (valsO s.heap.objs.size a), I.laid (t' := s.toks) (fun b u e => Heap.get?_push_of_some _ e) (Nat.le_refl _) (valsO_of (Heap.get?_push_size _ rfl)), rfl, q _ hn⟩
theorem accVT {X : Cx} {H : Hp} {kvs : List (List Key × V)} {es : Array DictEntry} {ks : List (List Key × Addr × Value)} (pr : KT H kvs ks) (he : es.toList = ks.map (entryOfKey (tupleKind (mixKind X.prog X.w)))) {acc : Array Value}
    (it : ItemsOf (fun i v => ∃ hi : i < es.size, v = es[i].val) acc es.size) : Vals (kvs.map fun kv => kv.2) acc.toList := by
  have l1 : es.size = ks.length := size_of_entries he
  have e1 : acc.toList = ks.map fun x => x.2.2 := by
    have hl : acc.toList.length = ks.length := by rw [Array.length_toList, it.1]; exact l1
    refine List.ext_getElem? fun j => ?_
    rw [List.getElem?_map]
    cases hj : acc.toList[j]? with
    | none =>
      have h1 := List.getElem?_eq_none_iff.mp hj
      rw [List.getElem?_eq_none (by omega)] <;> rfl
    | some v =>
      obtain ⟨hi, hv⟩ := it.2 j v (by rw [← Array.getElem?_toList]; exact hj)
      have qe := entry_at he j
      have e0 : es[j]? = some es[j] := Array.getElem?_eq_getElem hi
      cases hb : ks[j]? with
      | none =>
        have := List.getElem?_eq_none_iff.mp hb
        omega
      | some b =>
        have qe2 : some es[j] = some (entryOfKey (tupleKind (mixKind X.prog X.w)) b) := by rw [← e0, qe, hb] <;> rfl
        rw [hv, Option.some.inj qe2] <;> rfl
  rw [e1]
  clear e1 it he l1
  induction pr with
  | nil => exact .nil
  | cons h t ih => exact .cons h.2.2 ih
def rTupVals : List V → Hp → VK → Prop := fun xs H Q => ∃ p d kvs, xs = [V.ref p] ∧ H p = some (valsO p d) ∧ H d = some (.dT kvs) ∧ ∀ T, H T = none → Q (.ref T) (upd H T (.tup (kvs.map fun kv => kv.2)))
theorem code_tup_vals {X : Cx} {pins : List (Addr × Obj)} {σ : L2.St} {H : Hp} {s : Shared} (I : Inv X pins σ H s) {A : Around} {E : Value → Shared → Prop} (hh : A.handled = none) {p d : Addr} {kvs : List (List Key × V)} (hp : H p = some (valsO p d)) (hd : H d = some (.dT kvs)) {Q₁ : Value → Shared → Prop}
    (q : ∀ s' T, Inv X pins σ (upd H T (.tup (kvs.map fun kv => kv.2))) s' → s'.TypeIs (.ref T) "tuple" → H T = none → Q₁ (.ref T) s') :
    codeAny (model X.prog X.w) A (.call (.builtin "tuple.__new__") ⟨[.type "tuple", .ref p], []⟩) (wants Q₁ E) s := by
  obtain ⟨z, hs, ks, o, es, ep, pr, ho, hx, hdt, he⟩ := keysDT I hd
  have view : s.heap.IsValuesView p d := (show ObjOk X.prog X.w H s.heap p (valsO p d) from I.hok p _ hp).1
  have l2 : kvs.length = ks.length := Paired.length pr
  have l1 : es.size = ks.length := size_of_entries he
  have hes : es.size ≤ sizeLine := by omega
  refine codeAny_of_tree ?_
  show wpAny _ A.in1 (do checkBuiltinCall "tuple.__new__" ⟨[.type "tuple", .ref p], []⟩; again (.builtin "tuple.__new__" ⟨[.type "tuple", .ref p], []⟩)) _ _ s
  refine wpAny_bind (wpAny_of_eq (F.newCall_tuple_1 _) (wpAny_pure ⟨plainId_quiet F.plain_tuple_new _, codeAny_builtin F.entry_tuple_new ?_⟩))
  rw [Around.under_plainId F.plain_tuple_new _]
  have hsub := sub_tuple_self
  have hinit := init_tuple_lookup
  have hmh := madeHere_tuple
  have hTI : s.TypeIs (.ref p) "dict_values" := view.typeIs
  have hh1 : A.in1.handled = none := hh
  have raw : s.heap.DictRaw d es ep := ⟨o, ho, hx, hdt⟩
  wp_walk using wpAny_typeOf hTI, PySem.W.kdu_collect (A := A.in1) PySem.KdlSrc.rawValues hh1 ⟨view, raw⟩ hes
  intro h' tk acc kp it
  have rv := accVT pr he it
  have hsl : acc.toList.length ≤ sizeLine := by rw [← rv.length, List.length_map]; omega
  show wpAny _ _ (Builtin.Tuple.tupleExact acc.toList.toArray >>= fun v => ret v) _ _ _
  unfold Builtin.Tuple.tupleExact
  refine wpAny_bind (wpAny_newObj_type ?_ (by show acc.toList.toArray.size ≤ sizeLine; simpa using hsl))
  refine wpAny_pure ?_
  have I' : Inv X pins σ H { s with heap := h', toks := tk } := I.kept (t' := tk) kp
  have hfr' : H h'.objs.size = none := I'.hok.fresh (Nat.le_refl _)
  have gT : (h'.push { cls := .type "tuple", data := .seq acc.toList.toArray }).get? h'.objs.size = some { cls := .type "tuple", data := .seq acc.toList.toArray } := Heap.get?_push_size _ rfl
  have I2 : Inv X pins σ (upd H h'.objs.size (.tup (kvs.map fun kv => kv.2))) { s with heap := h'.push { cls := .type "tuple", data := .seq acc.toList.toArray }, toks := tk } :=
    I'.laid (t' := tk) (fun b u e => Heap.get?_push_of_some _ e) (Nat.le_refl _) ⟨by rw [rv.length]; exact hsl, acc.toList, rv, ⟨_, gT, rfl, _, rfl⟩⟩
  exact q _ _ I2 ⟨_, gT, rfl⟩ hfr'
theorem call_tup_vals {X : Cx} (hcalm : X.calm = true) : CallR X (.type "tuple") rTupVals := by
  intro pins s σ H xs us Q I r h
  obtain ⟨p, d, kvs, rfl, hp, hd, q⟩ := h
  obtain ⟨u, rfl, rx⟩ := r.one
  cases rx
  have hh : X.A.in1.handled = none := show X.A.handled = none from I.ok.hd hcalm
  refine callType_codes (Q₁ := fun obj s₁ => s₁.TypeIs obj "tuple" ∧ EP X pins σ Q obj s₁) F.called_tuple (F.typeCall_tuple_1 _) F.entry_object_init
    (code_tup_vals I (A := X.A.in1) hh hp hd fun s' T I' hty hn => ⟨hty, .ref T, _, I', rfl, q T hn⟩) fun obj s₁ h₁ => ?_
  exact ⟨h₁.1, F.args_object_init_2 obj _, object_init_meets F.called_tuple.init.lookup F.called_tuple.made (by decide) X.prog X.w X.A.in1 _ s₁ ⟨h₁.1, rfl, h₁.2⟩⟩
def rLstVals : List V → Hp → VK → Prop := fun xs H Q => ∃ p d kvs, xs = [V.ref p] ∧ H p = some (valsO p d) ∧ H d = some (.dT kvs) ∧ ∀ T, H T = none → Q (.ref T) (upd H T (.lst (kvs.map fun kv => kv.2)))
theorem call_lst_vals {X : Cx} (hcalm : X.calm = true) : CallR X (.type "list") rLstVals := by
  intro pins s σ H xs us Q I r h
  obtain ⟨p, d, kvs, rfl, hp, hd, q⟩ := h
  obtain ⟨u, rfl, rx⟩ := r.one
  cases rx
  obtain ⟨z, hs, ks, o, es, ep, pr, ho, hx, hdt, he⟩ := keysDT I hd
  have view : s.heap.IsValuesView p d := (show ObjOk X.prog X.w H s.heap p (valsO p d) from I.hok p _ hp).1
  have l2 : kvs.length = ks.length := Paired.length pr
  have l1 : es.size = ks.length := size_of_entries he
  refine PySem.W.kdl_call PySem.KdlSrc.rawValues (I.ok.hd hcalm) ⟨view, o, ho, hx, hdt⟩ (by omega) fun h' tk acc c kp e it => ?_
  have rv := accVT pr he it
  refine ⟨.ref s.heap.objs.size, _, I.laid (t' := tk) (o := .lst (kvs.map fun kv => kv.2)) kp (Nat.le_refl _) ?_, rfl, q _ (I.hok.fresh (Nat.le_refl _))⟩
  exact ⟨by rw [List.length_map]; omega, acc.toList, c, rv, by rw [Array.toArray_toList]; exact e⟩
def tVals (b : Bool) (te : TE) : TE := fun σ H Q => te σ H fun x H1 => ∃ a kvs, x = V.ref a ∧ H1 a = some (.dT kvs) ∧ ∀ p T H2, Same H1 H2 → H2 T = some (if b then .tup (kvs.map fun kv => kv.2) else .lst (kvs.map fun kv => kv.2)) → H1 p = none → T ≠ p → H1 T = none → Q (.ref T) H2
end Toy
/-! ### zip of a list and a tuple, in a for or a comprehension -/
namespace PySem
section
variable {prog : Program} {w : World} {A : Around} {E : Value → Shared → Prop} {s : Shared}
/-- the second value drawn, the pair handed out -/
theorem zipN_out {z TI TO : Addr} {x y : Value} {Q : Value → Shared → Prop} (nz : TO ≠ z) (hz : IsZip s.heap z TI TO .ellipsis) (hTO : IsPair s.heap TO x y)
    (hQ : ∀ h', IsZip h' z TI TO (rawInt s.heap.objs.size) → IsPair h' s.heap.objs.size x y → h'.objs.size = s.heap.objs.size + 1 → (∀ c o, c ≠ z → s.heap.get? c = some o → h'.get? c = some o) → Q (.ref s.heap.objs.size) { s with heap := h' }) :
    wpAny (model prog w) A (newTuple [x, y] >>= fun T => Builtin.SmallTypes.ownedTupleHandOut (.ref z) T >>= fun _ => ret T) (fun fin s' => ∃ v, fin = .done (.ret v) ∧ Q v s') E s := by
  have zl : z < s.heap.objs.size := Heap.lt_size hz
  refine wpAny_bind (wpAny_newTuple ?_)
  refine wpAny_bind ?_
  unfold Builtin.SmallTypes.ownedTupleHandOut
  have z6 : IsZip (s.heap.push { cls := .type "tuple", data := .seq #[x, y] }) z TI TO .ellipsis := Heap.get?_push_of_some _ hz
  refine wpAny_bind (wpAny_setField_rec z6 (by simp) fun h7 z7 s7 => ?_)
  replace z7 : IsZip h7 z TI TO (rawInt s.heap.objs.size) := z7
  refine wpAny_setField_rec z7 (by simp) fun h8 z8 s8 => ?_
  replace z8 : IsZip h8 z TI TO (rawInt s.heap.objs.size) := z8
  refine wpAny_pure ⟨_, rfl, hQ h8 z8 ?_ ?_ fun c o n e => s8.extBut _ _ n (s7.extBut _ _ n (Heap.get?_push_of_some _ e))⟩
  · exact s8.extBut _ _ (Nat.ne_of_gt zl) (s7.extBut _ _ (Nat.ne_of_gt zl) (Heap.get?_push_size _ rfl))
  · rw [s8.1, s7.1, Heap.size_push]
theorem zipN_item {z TI TO i1 i2 l1 l2 : Addr} {k1 k2 : Nat} {xs ys : Array Value} {x y a b : Value} {Q : Value → Shared → Prop} (D : ZipApart z TI TO i1 i2 l1 l2)
    (hz : IsZip s.heap z TI TO .none) (hTI : IsPair s.heap TI (.ref i1) (.ref i2)) (hTO : IsPair s.heap TO a b)
    (h1 : s.heap.IsListIter i1 l1 k1) (h2 : s.heap.IsTupleIter i2 l2 k2) (t1 : s.heap.IsList l1 xs) (t2 : s.heap.IsTuple l2 ys) (hx : xs[k1]? = some x) (hy : ys[k2]? = some y)
    (hQ : ∀ h', IsZip h' z TI TO (rawInt s.heap.objs.size) → IsPair h' TO x y → h'.IsListIter i1 l1 (k1 + 1) → h'.IsTupleIter i2 l2 (k2 + 1) → IsPair h' s.heap.objs.size x y → h'.objs.size = s.heap.objs.size + 1 →
      (∀ c o, c ≠ z → c ≠ TO → c ≠ i1 → c ≠ i2 → s.heap.get? c = some o → h'.get? c = some o) → Q (.ref s.heap.objs.size) { s with heap := h' }) :
    wpAny (model prog w) A (Builtin.«zip.__next__» ⟨[.ref z], []⟩) (fun fin s' => ∃ v, fin = .done (.ret v) ∧ Q v s') E s := by
  show wpAny _ _ (field (.ref z) 2 >>= _) _ _ _
  refine wpAny_bind (wpAny_field hz rfl (x := .bool false) rfl ?_)
  show wpAny _ _ (field (.ref z) 3 >>= _) _ _ _
  refine wpAny_bind (wpAny_field hz rfl (x := .ref TI) rfl ?_)
  refine wpAny_bind (wpAny_seqItems hTI rfl ?_)
  show wpAny _ _ (Builtin.SmallTypes.ownedTupleIsFree (.ref z) >>= _) _ _ _
  refine wpAny_bind ?_
  unfold Builtin.SmallTypes.ownedTupleIsFree
  refine wpAny_bind (wpAny_field hz rfl (x := .none) rfl (wpAny_pure ?_))
  simp only [if_true]
  refine wpAny_bind (wpAny_rule ?_)
  refine wpAny_bind (wpAny_field hz rfl (x := .ref TO) rfl ?_)
  refine wpAny_bind (wpAny_setField_rec hz (by simp) fun g1 z1 e1 => ?_)
  replace z1 : IsZip g1 z TI TO .ellipsis := z1
  refine wpAny_bind ?_
  simp only [List.zipIdx_cons, List.zipIdx_nil, List.forIn_cons, List.forIn_nil]
  refine wpAny_bind (wpAny_bind (wpAny_onRaise ?_))
  show wpAny _ _ (Builtin.SmallTypes.nextOf (.ref i1) >>= _) _ _ _
  refine wpAny_bind (wpAny_nextOf_list_item (h1.extBut e1.extBut D.i1z) (t1.extBut e1.extBut D.l1z) hx fun g2 p2 e2 => wpAny_pure ?_)
  have o2 : IsPair g2 TO a b := e2.extBut _ _ D.TOi1 (e1.extBut _ _ D.TOz hTO)
  refine wpAny_bind (wpAny_seqItems o2 rfl ?_)
  refine wpAny_bind (wpAny_updateSeq_pair o2 fun g3 o3 e3 => ?_)
  replace o3 : IsPair g3 TO x b := o3
  refine wpAny_bind (wpAny_letGo (wpAny_pure ?_))
  refine wpAny_bind (wpAny_bind (wpAny_onRaise ?_))
  show wpAny _ _ (Builtin.SmallTypes.nextOf (.ref i2) >>= _) _ _ _
  refine wpAny_bind (RZ.nextOf_tuple_item (((h2.extBut e1.extBut D.i2z).extBut e2.extBut D.i12.symm).extBut e3.extBut D.TOi2.symm)
    (((t2.extBut e1.extBut D.l2z).extBut e2.extBut D.l2i1).extBut e3.extBut D.l2TO) hy fun g4 p4 e4 => wpAny_pure ?_)
  have o4 : IsPair g4 TO x b := e4.extBut _ _ D.TOi2 o3
  refine wpAny_bind (wpAny_seqItems o4 rfl ?_)
  refine wpAny_bind (wpAny_updateSeq_pair o4 fun g5 o5 e5 => ?_)
  replace o5 : IsPair g5 TO x y := o5
  refine wpAny_bind (wpAny_letGo (wpAny_pure (wpAny_pure ?_)))
  refine wpAny_bind (wpAny_seqItems o5 rfl ?_)
  have zz : IsZip g5 z TI TO .ellipsis := e5.extBut _ _ D.TOz.symm (e4.extBut _ _ D.i2z.symm (e3.extBut _ _ D.TOz.symm (e2.extBut _ _ D.i1z.symm z1)))
  have ez : g5.objs.size = s.heap.objs.size := by rw [e5.1, e4.1, e3.1, e2.1, e1.1]
  have kk : ∀ c o, c ≠ z → c ≠ TO → c ≠ i1 → c ≠ i2 → s.heap.get? c = some o → g5.get? c = some o := fun c o c1 c2 c3 c4 e =>
    e5.extBut _ _ c2 (e4.extBut _ _ c4 (e3.extBut _ _ c2 (e2.extBut _ _ c3 (e1.extBut _ _ c1 e))))
  have q1 : g5.IsListIter i1 l1 (k1 + 1) := ((p2.extBut e3.extBut D.TOi1.symm).extBut e4.extBut D.i12).extBut e5.extBut D.TOi1.symm
  have q2 : g5.IsTupleIter i2 l2 (k2 + 1) := p4.extBut e5.extBut D.TOi2.symm
  refine zipN_out (s := { s with heap := g5 }) D.TOz zz o5 fun h' a1 a2 a3 a4 => ?_
  simp only [ez] at a1 a2 a3 ⊢
  exact hQ h' a1 (a4 _ _ D.TOz o5) (q1.at fun o e => a4 _ o D.i1z e) (q2.at fun o e => a4 _ o D.i2z e) a2 a3 fun c o c1 c2 c3 c4 e => a4 c o c1 (kk c o c1 c2 c3 c4 e)
theorem zipN_end {z TI TO i1 i2 l1 l2 : Addr} {k1 k2 : Nat} {xs ys : Array Value} {a b : Value} {Q : Fin → Shared → Prop} (hh : A.handled = none) (D : ZipApart z TI TO i1 i2 l1 l2)
    (hz : IsZip s.heap z TI TO .none) (hTI : IsPair s.heap TI (.ref i1) (.ref i2)) (hTO : IsPair s.heap TO a b)
    (h1 : s.heap.IsListIter i1 l1 k1) (h2 : s.heap.IsTupleIter i2 l2 k2) (t1 : s.heap.IsList l1 xs) (t2 : s.heap.IsTuple l2 ys) (hend : xs[k1]? = none ∨ ys[k2]? = none)
    (hE : ∀ h' e, (∀ c o, c ≠ z → c ≠ TO → c ≠ i1 → c ≠ i2 → s.heap.get? c = some o → h'.get? c = some o) → (∃ o, h'.get? e = some o ∧ o.cls = .type "StopIteration") → E (.ref e) { s with heap := h' }) :
    wpAny (model prog w) A (Builtin.«zip.__next__» ⟨[.ref z], []⟩) Q E s := by
  show wpAny _ _ (field (.ref z) 2 >>= _) _ _ _
  refine wpAny_bind (wpAny_field hz rfl (x := .bool false) rfl ?_)
  show wpAny _ _ (field (.ref z) 3 >>= _) _ _ _
  refine wpAny_bind (wpAny_field hz rfl (x := .ref TI) rfl ?_)
  refine wpAny_bind (wpAny_seqItems hTI rfl ?_)
  show wpAny _ _ (Builtin.SmallTypes.ownedTupleIsFree (.ref z) >>= _) _ _ _
  refine wpAny_bind ?_
  unfold Builtin.SmallTypes.ownedTupleIsFree
  refine wpAny_bind (wpAny_field hz rfl (x := .none) rfl (wpAny_pure ?_))
  simp only [if_true]
  refine wpAny_bind (wpAny_rule ?_)
  refine wpAny_bind (wpAny_field hz rfl (x := .ref TO) rfl ?_)
  refine wpAny_bind (wpAny_setField_rec hz (by simp) fun g1 z1 e1 => ?_)
  replace z1 : IsZip g1 z TI TO .ellipsis := z1
  refine wpAny_bind ?_
  simp only [List.zipIdx_cons, List.zipIdx_nil, List.forIn_cons, List.forIn_nil]
  refine wpAny_bind (wpAny_bind (wpAny_onRaise ?_))
  show wpAny _ _ (Builtin.SmallTypes.nextOf (.ref i1) >>= _) _ _ _
  -- one of the two is done: its error goes out
  have out : ∀ (g : Heap) (e : Addr), IsZip g z TI TO .ellipsis → (∃ o, g.get? e = some o ∧ o.cls = .type "StopIteration") → (∀ c o, c ≠ z → c ≠ TO → c ≠ i1 → c ≠ i2 → s.heap.get? c = some o → g.get? c = some o) →
      wpAny (model prog w) A (setField (.ref z) 0 .none) (fun _ s' => E (.ref e) s') E { s with heap := g } := by
    rintro g e hg ⟨o, ho, hc⟩ hk
    have ne : e ≠ z := fun q => by subst q; rw [hg] at ho; cases ho; simp at hc
    exact wpAny_setField_rec hg (by simp) fun g' _ hs => hE g' e (fun c o c1 c2 c3 c4 q => hs.extBut _ _ c1 (hk c o c1 c2 c3 c4 q)) ⟨o, hs.extBut _ _ ne ho, hc⟩
  cases hx : xs[k1]? with
  | none =>
    refine wpAny_bind (wpAny_nextOf_list_end hh (h1.extBut e1.extBut D.i1z) (t1.extBut e1.extBut D.l1z) hx fun g2 e e2 he => ?_)
    exact out g2 e (e2 _ _ D.i1z.symm z1) he fun c o c1 _ c3 _ q => e2 _ _ c3 (e1.extBut _ _ c1 q)
  | some x =>
    have hy : ys[k2]? = none := by
      rcases hend with h | h
      · rw [hx] at h; cases h
      · exact h
    refine wpAny_bind (wpAny_nextOf_list_item (h1.extBut e1.extBut D.i1z) (t1.extBut e1.extBut D.l1z) hx fun g2 p2 e2 => wpAny_pure ?_)
    have o2 : IsPair g2 TO a b := e2.extBut _ _ D.TOi1 (e1.extBut _ _ D.TOz hTO)
    refine wpAny_bind (wpAny_seqItems o2 rfl ?_)
    refine wpAny_bind (wpAny_updateSeq_pair o2 fun g3 o3 e3 => ?_)
    refine wpAny_bind (wpAny_letGo (wpAny_pure ?_))
    refine wpAny_bind (wpAny_bind (wpAny_onRaise ?_))
    show wpAny _ _ (Builtin.SmallTypes.nextOf (.ref i2) >>= _) _ _ _
    refine wpAny_bind (RZ.nextOf_tuple_end hh (((h2.extBut e1.extBut D.i2z).extBut e2.extBut D.i12.symm).extBut e3.extBut D.TOi2.symm)
      (((t2.extBut e1.extBut D.l2z).extBut e2.extBut D.l2i1).extBut e3.extBut D.l2TO) hy fun g4 e e4 he => ?_)
    exact out g4 e (e4 _ _ D.i2z.symm (e3.extBut _ _ D.TOz.symm (e2.extBut _ _ D.i1z.symm z1))) he fun c o c1 c2 c3 c4 q => e4 _ _ c4 (e3.extBut _ _ c2 (e2.extBut _ _ c3 (e1.extBut _ _ c1 q)))
theorem zipN_next {z TI TO i1 i2 l1 l2 : Addr} {k1 k2 : Nat} {xs ys : Array Value} {x y a b : Value} {Q : Option Value → Shared → Prop} (D : ZipApart z TI TO i1 i2 l1 l2)
    (hz : IsZip s.heap z TI TO .none) (hTI : IsPair s.heap TI (.ref i1) (.ref i2)) (hTO : IsPair s.heap TO a b)
    (h1 : s.heap.IsListIter i1 l1 k1) (h2 : s.heap.IsTupleIter i2 l2 k2) (t1 : s.heap.IsList l1 xs) (t2 : s.heap.IsTuple l2 ys) (hx : xs[k1]? = some x) (hy : ys[k2]? = some y)
    (hQ : ∀ h', IsZip h' z TI TO (rawInt s.heap.objs.size) → IsPair h' TO x y → h'.IsListIter i1 l1 (k1 + 1) → h'.IsTupleIter i2 l2 (k2 + 1) → IsPair h' s.heap.objs.size x y → h'.objs.size = s.heap.objs.size + 1 →
      (∀ c o, c ≠ z → c ≠ TO → c ≠ i1 → c ≠ i2 → s.heap.get? c = some o → h'.get? c = some o) → Q (some (.ref s.heap.objs.size)) { s with heap := h' }) :
    wpAny (model prog w) A (pyNext (.ref z)) Q E s := by
  have hT : s.TypeIs (.ref z) "zip" := ⟨_, hz, rfl⟩
  unfold pyNext
  exact wpAny_bind (wpAny_attempt (wpAny_callSpecial?_slot (name := Str.ofString "__next__") hT F.slot_zip_next
    (wpAny_call_entry F.slot_zip_next hT F.entry_zip_next
      (zipN_item D hz hTI hTO h1 h2 t1 t2 hx hy fun h' a1 a2 a3 a4 a5 a6 a7 => wpAny_pure (hQ h' a1 a2 a3 a4 a5 a6 a7)) (F.args_zip_next_1 _))))
theorem zipN_done {z TI TO i1 i2 l1 l2 : Addr} {k1 k2 : Nat} {xs ys : Array Value} {a b : Value} {Q : Option Value → Shared → Prop} (hh : A.handled = none) (D : ZipApart z TI TO i1 i2 l1 l2)
    (hz : IsZip s.heap z TI TO .none) (hTI : IsPair s.heap TI (.ref i1) (.ref i2)) (hTO : IsPair s.heap TO a b)
    (h1 : s.heap.IsListIter i1 l1 k1) (h2 : s.heap.IsTupleIter i2 l2 k2) (t1 : s.heap.IsList l1 xs) (t2 : s.heap.IsTuple l2 ys) (hend : xs[k1]? = none ∨ ys[k2]? = none)
    (hQ : ∀ h', (∀ c o, c ≠ z → c ≠ TO → c ≠ i1 → c ≠ i2 → s.heap.get? c = some o → h'.get? c = some o) → Q none { s with heap := h' }) : wpAny (model prog w) A (pyNext (.ref z)) Q E s := by
  have hT : s.TypeIs (.ref z) "zip" := ⟨_, hz, rfl⟩
  unfold pyNext
  refine wpAny_bind (wpAny_attempt (wpAny_callSpecial?_slot (name := Str.ofString "__next__") hT F.slot_zip_next
    (wpAny_call_entry F.slot_zip_next hT F.entry_zip_next (zipN_end hh D hz hTI hTO h1 h2 t1 t2 hend fun h' e hk he => ?_) (F.args_zip_next_1 _))))
  obtain ⟨o, ho, hc⟩ := he
  exact wpAny_bind (wpAny_isInstance (T := "StopIteration") (b := true) ⟨o, ho, hc⟩ isSubtype_stop (wpAny_pure (hQ _ hk)))
end
def znH1 (h : Heap) (l1 : Addr) : Heap := h.push { cls := .type "list_iterator", data := .fields #[.ref l1, .int 0 0] }
def znH2 (h : Heap) (l1 l2 : Addr) : Heap := (znH1 h l1).push { cls := .type "tuple_iterator", data := .fields #[.ref l2, .int 0 0] }
def znH3 (h : Heap) (l1 l2 : Addr) : Heap := (znH2 h l1 l2).push { cls := .type "tuple", data := .seq #[.ref h.objs.size, .ref (znH1 h l1).objs.size] }
def znH4 (h : Heap) (l1 l2 : Addr) : Heap := (znH3 h l1 l2).push { cls := .type "tuple", data := .seq #[.none, .none] }
def znH5 (h : Heap) (l1 l2 : Addr) : Heap := (znH4 h l1 l2).push { cls := .type "zip", data := .fields #[.none, .bool false, .bool false, .ref (znH2 h l1 l2).objs.size, .ref (znH3 h l1 l2).objs.size] }
theorem zipN_meets (l1 l2 : Addr) (xs ys : Array Value) :
    Meets (Builtin.«zip.__new__» ⟨[.type "zip", .ref l1, .ref l2], []⟩) (fun _ R s => s.heap.IsList l1 xs ∧ s.heap.IsTuple l2 ys ∧
      R (.ok (.ret (.ref (znH4 s.heap l1 l2).objs.size))) { s with heap := znH5 s.heap l1 l2 }) :=
  .of_wp fun prog w A R s h => by
    obtain ⟨hp, g, d, tk, os⟩ := s; obtain ⟨t1, t2, h⟩ := h
    have hsub := sub_zip
    have f1 : Heap.IsList (Shared.heap ⟨hp, g, d, tk, os⟩) l1 xs := t1
    have f2 : Heap.IsTuple (Shared.heap ⟨hp.push { cls := .type "list_iterator", data := .fields #[.ref l1, .int 0 0] }, g, d, tk, os⟩) l2 ys := Heap.IsTuple.push t2 _
    wp_walk using wpAny_pyIter_list f1, wpAny_pyIter_tuple f2
    exact ⟨_, rfl, h⟩
section
variable {prog : Program} {w : World} {A : Around} {E : Value → Shared → Prop} {s : Shared}
theorem zipN_call {l1 l2 : Addr} {xs ys : Array Value} {Q : Value → Shared → Prop} (t1 : s.heap.IsList l1 xs) (t2 : s.heap.IsTuple l2 ys)
    (h : ∀ h', IsZip h' (s.heap.objs.size + 4) (s.heap.objs.size + 2) (s.heap.objs.size + 3) .none → IsPair h' (s.heap.objs.size + 2) (.ref s.heap.objs.size) (.ref (s.heap.objs.size + 1)) →
      IsPair h' (s.heap.objs.size + 3) .none .none → h'.IsListIter s.heap.objs.size l1 0 → h'.IsTupleIter (s.heap.objs.size + 1) l2 0 →
      (∀ c o, s.heap.get? c = some o → h'.get? c = some o) → Q (.ref (s.heap.objs.size + 4)) { s with heap := h' }) :
    wpAny (model prog w) A (call (.type "zip") [.ref l1, .ref l2]) Q E s := by
  refine callType_new F.called_zip (by decide) (F.typeCall_zip_2 _ _) (F.newCall_zip_2 _ _) (fun obj => F.args_object_init_3 obj _ _) F.entry_zip_new
    (zipN_meets l1 l2 xs ys) ⟨t1, t2, ?_⟩
  have n1 : (znH1 s.heap l1).objs.size = s.heap.objs.size + 1 := Heap.size_push ..
  have n2 : (znH2 s.heap l1 l2).objs.size = s.heap.objs.size + 2 := (Heap.size_push ..).trans (by rw [n1])
  have n3 : (znH3 s.heap l1 l2).objs.size = s.heap.objs.size + 3 := (Heap.size_push ..).trans (by rw [n2])
  have n4 : (znH4 s.heap l1 l2).objs.size = s.heap.objs.size + 4 := (Heap.size_push ..).trans (by rw [n3])
  have up1 : ∀ c o, (znH1 s.heap l1).get? c = some o → (znH5 s.heap l1 l2).get? c = some o := fun c o e =>
    Heap.get?_push_of_some _ (Heap.get?_push_of_some _ (Heap.get?_push_of_some _ (Heap.get?_push_of_some _ e)))
  have g5 : (znH5 s.heap l1 l2).get? (znH4 s.heap l1 l2).objs.size = some _ := Heap.get?_push_size _ rfl
  have g4 : (znH5 s.heap l1 l2).get? (znH3 s.heap l1 l2).objs.size = some _ := Heap.get?_push_of_some _ (Heap.get?_push_size _ rfl)
  have g3 : (znH5 s.heap l1 l2).get? (znH2 s.heap l1 l2).objs.size = some _ := Heap.get?_push_of_some _ (Heap.get?_push_of_some _ (Heap.get?_push_size _ rfl))
  have g2 : (znH5 s.heap l1 l2).get? (znH1 s.heap l1).objs.size = some _ := Heap.get?_push_of_some _ (Heap.get?_push_of_some _ (Heap.get?_push_of_some _ (Heap.get?_push_size _ rfl)))
  have g1 : (znH5 s.heap l1 l2).get? s.heap.objs.size = some _ := up1 _ _ (Heap.get?_push_size _ rfl)
  show _ ∧ _
  rw [n2, n3, n4] at g5
  rw [n1, n2] at g3
  rw [n3] at g4
  rw [n1] at g2
  rw [n4]
  exact ⟨⟨_, g5, rfl⟩, h _ g5 g3 g4 ⟨_, g1, rfl, rfl⟩ ⟨_, g2, rfl, rfl⟩ fun c o e => up1 _ _ (Heap.get?_push_of_some _ e)⟩
end
end PySem
namespace Toy
open PySem PySem.Spec PyProof.Rows L2
open Sem (wp)
/-- the list at a and the tuple at b as they stand at each turn, the items in new pairs -/
def ItzN (K : PySem.W.Frag) (a b : Addr) : It :=
  ⟨fun i H => ∃ (xs ys : List V) (x y : V), SqL K H a xs ∧ SqT K H b ys ∧ xs[i]? = some x ∧ ys[i]? = some y,
    fun i H v H' => ∃ T x y, v = .ref T ∧ H T = none ∧ H' = upd H T (.tup [x, y]) ∧ (∀ xs, SqL K H a xs → xs[i]? = some x) ∧ ∀ ys, SqT K H b ys → ys[i]? = some y,
    fun i H => ∃ xs ys : List V, SqL K H a xs ∧ SqT K H b ys ∧ (xs.length ≤ i ∨ ys.length ≤ i)⟩
theorem turn_zipN {P : Program} {w : World} {K : PySem.W.Frag} {elts : List Expr} {kk : Nat} {tpos : Pos} {a b z TI TO i1 i2 : Addr} (D : ZipApart z TI TO i1 i2 a b) :
    Turn P w K (.Tuple elts kk tpos) (ItzN K a b) [z, TI, TO, i1, i2] z (fun i h => IsZip h z TI TO .none ∧ IsPair h TI (.ref i1) (.ref i2) ∧ (∃ x y, IsPair h TO x y) ∧ h.IsListIter i1 a i ∧ h.IsTupleIter i2 b i) where
  mem := by simp
  obj := fun i h st c hc => by
    obtain ⟨hz, hTI, ⟨x, y, hTO⟩, ⟨o1, e1, _, d1⟩, ⟨o2, e2, _, d2⟩⟩ := st
    have e' : c = z ∨ c = TI ∨ c = TO ∨ c = i1 ∨ c = i2 := by simpa using hc
    rcases e' with q | q | q | q | q
    · rw [q]; exact ⟨_, hz, fun v q => nomatch q⟩
    · rw [q]; exact ⟨_, hTI, fun v q => nomatch q⟩
    · rw [q]; exact ⟨_, hTO, fun v q => nomatch q⟩
    · rw [q]; exact ⟨o1, e1, fun v q => by rw [d1] at q; cases q⟩
    · rw [q]; exact ⟨o2, e2, fun v q => by rw [d2] at q; cases q⟩
  keep := fun i h h' st k => by
    obtain ⟨hz, hTI, ⟨x, y, hTO⟩, h1, h2⟩ := st
    exact ⟨k z (by simp) _ hz, k TI (by simp) _ hTI, ⟨x, y, k TO (by simp) _ hTO⟩, h1.at fun o q => k i1 (by simp) o q, h2.at fun o q => k i2 (by simp) o q⟩
  item := by
    intro X hP hw hK hc i pins s σ H E I hf st hg
    subst hP hw hK
    obtain ⟨hz, hTI, ⟨x0, y0, hTO⟩, h1, h2⟩ := st
    obtain ⟨xs, ys, x, y, hqx, hqy, hx, hy⟩ := hg
    obtain ⟨its, rv, p, _⟩ := I.list hqx
    obtain ⟨its2, rv2, p2, _⟩ := I.tuple hqy
    obtain ⟨u, hu, ru⟩ := rv.get hx
    obtain ⟨u2, hu2, ru2⟩ := rv2.get hy
    have hzl : z < s.heap.objs.size := Heap.lt_size hz
    refine zipN_next D hz hTI hTO h1 h2 p.isList p2 (x := u) (y := u2) (by simpa using hu) (by simpa using hu2) fun h' z' TO' h1' h2' hT hsz hk => ?_
    refine ⟨_, rfl, wpAny_letOwnedTupleGo_zip (s := { s with heap := h' }) z' fun h'' z'' sb => ?_⟩
    have hT2 : h''.get? s.heap.objs.size = some { cls := .type "tuple", data := .seq #[u, u2] } := (sb.2 _ (Nat.ne_of_gt hzl)).trans hT
    have new : ObjOk X.prog X.w (upd H s.heap.objs.size (.tup [x, y])) h'' s.heap.objs.size (.tup [x, y]) :=
      ⟨by show 2 ≤ sizeLine; decide, [u, u2], .cons ru (.cons ru2 .nil), ⟨_, hT2, rfl, _, rfl⟩⟩
    have I1 : Inv X pins σ (upd H s.heap.objs.size (.tup [x, y])) { s with heap := h'' } :=
      I.turnedNew (t' := s.toks) (ch := [z, TI, TO, i1, i2]) (fun c o hb q => (sb.2 c (fun q' => hb (by simp [q']))).trans (hk c o (fun q' => hb (by simp [q'])) (fun q' => hb (by simp [q'])) (fun q' => hb (by simp [q'])) (fun q' => hb (by simp [q'])) q)) hf (Nat.le_refl _) new
    refine ⟨.ref s.heap.objs.size, _, I1, rfl, ⟨_, x, y, rfl, I.hok.fresh (Nat.le_refl _), rfl, fun l hl => by rw [I.list_inj hl hqx]; exact hx, fun l hl => by rw [I.tuple_inj hl hqy]; exact hy⟩, ⟨z'', ?_, ⟨u, u2, ?_⟩, ?_, ?_⟩, fun c hcm => ?_⟩
    · exact (sb.2 _ D.TIz).trans (hk _ _ D.TIz D.TITO D.TIi1 D.TIi2 hTI)
    · exact (sb.2 _ D.TOz).trans TO'
    · exact h1'.at fun o q => (sb.2 _ D.i1z).trans q
    · exact h2'.at fun o q => (sb.2 _ D.i2z).trans q
    · have hlt : c < s.heap.objs.size := by
        have e' : c = z ∨ c = TI ∨ c = TO ∨ c = i1 ∨ c = i2 := by simpa using hcm
        rcases e' with q | q | q | q | q
        · rw [q]; exact hzl
        · rw [q]; exact Heap.lt_size hTI
        · rw [q]; exact Heap.lt_size hTO
        · rw [q]; obtain ⟨_, e1, _⟩ := h1; exact Heap.lt_size e1
        · rw [q]; obtain ⟨_, e2, _⟩ := h2; exact Heap.lt_size e2
      rw [upd_ne (Nat.ne_of_lt hlt)]
      exact (hf c hcm).1
  done := by
    intro X hP hw hK hc i pins s σ H E I hf st hg
    subst hP hw hK
    obtain ⟨hz, hTI, ⟨x0, y0, hTO⟩, h1, h2⟩ := st
    obtain ⟨xs, ys, hqx, hqy, hend⟩ := hg
    obtain ⟨its, rv, p, _⟩ := I.list hqx
    obtain ⟨its2, rv2, p2, _⟩ := I.tuple hqy
    have l1 := rv.length
    have l2 := rv2.length
    have he : its.toArray[i]? = none ∨ its2.toArray[i]? = none := by
      rcases hend with q | q
      · exact .inl (by simp; omega)
      · exact .inr (by simp; omega)
    exact zipN_done (I.ok.hd hc) D hz hTI hTO h1 h2 p.isList p2 he fun h' hk => ⟨rfl, I.turnedL (t' := s.toks) (ch := [z, TI, TO, i1, i2]) (fun c o hb q =>
      hk c o (fun q' => hb (by simp [q'])) (fun q' => hb (by simp [q'])) (fun q' => hb (by simp [q'])) (fun q' => hb (by simp [q'])) q) hf⟩
  self := fun A i s Q E st h => wpAny_pyIter_zip st.1 h
def iZipN (K : PySem.W.Frag) (ta : TA) : TI := fun σ H R => ta σ H fun vs H1 => ∃ a b xs ys, vs = [.ref a, .ref b] ∧ SqL K H1 a xs ∧ SqT K H1 b ys ∧ R (ItzN K a b) H1
theorem pi_zipN {X : Cx} {e e2 : Expr} {ta : TA} {p pos tpos : Pos} {elts : List Expr} {kk : Nat} (hg : Gl X "zip") (hm : X.mg "zip" = none) (ha : PA X [e, e2] ta)
    (hs : starEach [e, e2] X.env = (false, eval e X.env) :: starEach [e2] X.env := by rfl) (hpl : (backTo pos (starEach [e2] X.env)).any (·.1) = false := by rfl) :
    PI X (.Tuple elts kk tpos) (.Call (.Name "zip" p) [e, e2] [] pos) (iZipN X.K ta) := by
  refine ⟨fun pins s σ H R I h => ?_⟩
  refine Call_ (ld_blt I hg hm PyProof.Rows.boot_zip (PyProof.Rows.callWith_type1 (thn (ha.run pos pins s σ H _ I h) fun us s1 ⟨vs, H1, I1, r1, q1⟩ => ?_) hs hpl))
  obtain ⟨a, b, xs, ys, ex, hqx, hqy, q⟩ := q1
  subst ex
  obtain ⟨u, u2, rfl, ra, rb⟩ := vals2 r1
  cases ra
  cases rb
  obtain ⟨its, rv, p1, _⟩ := I1.list hqx
  obtain ⟨its2, rv2, p2, _⟩ := I1.tuple hqy
  obtain ⟨o2, ho2, _⟩ := id p2
  have fr : ∀ j, FpOk X pins H1 (s1.heap.objs.size + j) := fun j => I1.fpOk (Nat.le_add_right _ j) (I1.hok.fresh (Nat.le_add_right _ j))
  refine zipN_call p1.isList (show s1.heap.IsTuple b its2.toArray from p2) fun h' hz hTI hTO h1 h2 hk => wpAny_pyIter_zip hz ?_
  have I2 : Inv X pins σ H1 { s1 with heap := h' } := I1.kept (t' := s1.toks) hk
  refine ⟨s1.heap.objs.size + 4, [s1.heap.objs.size + 4, s1.heap.objs.size + 2, s1.heap.objs.size + 3, s1.heap.objs.size, s1.heap.objs.size + 1], _, _, H1, rfl, I2, turn_zipN (PySem.W.ktu_apart s1.heap.objs.size a b p1.lt (Heap.lt_size ho2)), ⟨hz, hTI, ⟨_, _, hTO⟩, h1, h2⟩, fun c hc => ?_, q⟩
  have e' : c = s1.heap.objs.size + 4 ∨ c = s1.heap.objs.size + 2 ∨ c = s1.heap.objs.size + 3 ∨ c = s1.heap.objs.size ∨ c = s1.heap.objs.size + 1 := by simpa using hc
  rcases e' with z | z | z | z | z
  · rw [z]; exact fr 4
  · rw [z]; exact fr 2
  · rw [z]; exact fr 3
  · rw [z]; exact fr 0
  · rw [z]; exact fr 1
end Toy
/-! ### tuples: t + u and t[a:b] of any kind -/
namespace Toy
open PySem PySem.Spec PyProof.Rows L2
def rCatU : R2 := fun x y H Q => ∃ a b xs ys, x = .ref a ∧ y = .ref b ∧ H a = some (.tup xs) ∧ H b = some (.tup ys) ∧ xs.length + ys.length ≤ sizeLine ∧ ∀ p H', Same H H' → H' p = some (.tup (xs ++ ys)) → Q (.ref p) H'
theorem op_catU {X : Cx} : OpR X (binaryOp .Add) rCatU := by
  intro pins s σ H x y v u Q I rx ry h
  obtain ⟨a, b, xs, ys, rfl, rfl, ha, hb, hz, q⟩ := h
  refine op_catA pins s σ H _ _ v u Q I rx ry ⟨a, b, xs, ys, rfl, rfl, SqT.of ha, SqT.of hb, hz, fun e => ?_, fun _ e => ?_, fun _ _ p hp => q p _ (same_new hp _) upd_same⟩
  · subst e
    exact q b H (fun _ _ z => z) (by rw [hb, List.nil_append])
  · subst e
    exact q a H (fun _ _ z => z) (by rw [ha, List.append_nil])
def rSlU : V → Option Int → Option Int → Hp → VK → Prop := fun x lo hi H Q => ∃ a xs, x = .ref a ∧ H a = some (.tup xs) ∧ ∀ p H', Same H H' → H' p = some (.tup (cutV xs lo hi)) → Q (.ref p) H'
theorem sl_tupU {X : Cx} : SlR X rSlU := by
  intro pins s σ H x v vl vu lo hi sl Q I rx hs pl pu h
  obtain ⟨a, xs, rfl, ha, q⟩ := h
  refine sl_tupA pins s σ H _ v vl vu lo hi sl Q I rx hs pl pu ⟨a, xs, rfl, SqT.of ha, fun e => ?_, fun _ p hp => q p _ (same_new hp _) upd_same⟩
  refine q a H (fun _ _ z => z) ?_
  rw [ha]
  have : cutV xs lo hi = xs := by
    unfold cutV
    rw [e.1, e.2, List.drop_zero, Nat.sub_zero, List.take_length]
  rw [this]
end Toy
/-! ### range(n) as a thing, x not in it -/
namespace Toy
open PySem PySem.Spec PyProof.Rows L2
def rRg1 : List V → Hp → VK → Prop := fun vs H Q => ∃ j, vs = [V.int j] ∧ ∀ p, H p = none → Q (.ref p) (upd H p (.rng 0 j))
theorem cr_rg1 {X : Cx} : CallR X (.type "range") rRg1 := by
  intro pins s σ H vs us Q I r h
  obtain ⟨j, rfl, q⟩ := h
  obtain ⟨u1, rfl, ri⟩ := vals1 r
  obtain ⟨t, rfl⟩ := ri
  refine call_range_1 ⟨.ref s.heap.objs.size, upd H s.heap.objs.size (.rng 0 j), I.laid (fun b o e => Heap.get?_push_of_some _ e) (Nat.le_refl _) ?_, rfl, q _ (I.hok.fresh (Nat.le_refl _))⟩
  exact ⟨_, _, _, Heap.get?_push_size _ rfl⟩
def rNotRg : R2 := fun x y H Q => ∃ i a lo hi, x = V.int i ∧ y = V.ref a ∧ H a = some (.rng lo hi) ∧ Q (.bl (!decide (lo ≤ i ∧ i < hi))) H
theorem op_notin_rg {X : Cx} : OpR X (compareOp .NotIn) rNotRg := by
  intro pins s σ H x y v u Q I rx ry h
  obtain ⟨i, a, lo, hi, rfl, rfl, ha, q⟩ := h
  obtain ⟨k, rfl⟩ := rx
  obtain rfl : u = Value.ref a := ry
  obtain ⟨t1, t2, t3, ho⟩ := I.hok a _ ha
  show wpAny _ _ (do return Value.bool (!(← contains (Value.ref a) (Value.int i k)))) _ _ s
  refine wpAny_bind (wpAny_contains_slot (T := "range") ⟨_, ho, rfl⟩ F.slot_range_contains (call_meets F.slot_range_contains ⟨_, ho, rfl⟩ F.entry_range_contains (F.args_range_contains_2 _ _) (q_contains a lo hi i t1 t2 t3 k)
    ⟨ho, wpAny_truthy_bool (wpAny_pure ⟨.bl _, H, I, rfl, ?_⟩)⟩))
  rw [place1]
  exact q
/-! ### deeds by table, their families: plain law -/
def thn (a b : List Nat) : List Nat := a.map fun s => b.getD s 0
def Dt (S : Nat) (d : List Nat) : Prop := d.length = S ∧ Bel d S
theorem getD_thn {a b : List Nat} {s : Nat} (h : s < a.length) : (thn a b).getD s 0 = b.getD (a.getD s 0) 0 := by
  unfold thn
  rw [List.getD_eq_getElem?_getD, List.getElem?_map, List.getElem?_eq_getElem h, show a.getD s 0 = a[s] from by rw [List.getD_eq_getElem?_getD, List.getElem?_eq_getElem h] <;> rfl] <;> rfl
theorem thn_dt {S : Nat} {a b : List Nat} (ha : Dt S a) (hb : Dt S b) : Dt S (thn a b) := by
  refine ⟨by unfold thn; rw [List.length_map]; exact ha.1, fun x hx => ?_⟩
  obtain ⟨s, hs, rfl⟩ := List.mem_map.mp hx
  exact hb.2 _ (getD_mem (by rw [hb.1]; exact ha.2 s hs))
theorem thn_assoc {S : Nat} {a b c : List Nat} (ha : Dt S a) (hb : Dt S b) : thn (thn a b) c = thn a (thn b c) := by
  unfold thn
  rw [List.map_map]
  refine List.map_congr_left fun s hs => ?_
  have h : s < b.length := by rw [hb.1]; exact ha.2 s hs
  exact (getD_thn (a := b) (b := c) h).symm
theorem idD_dt {S : Nat} : Dt S (List.range S) := ⟨List.length_range, fun x hx => List.mem_range.mp hx⟩
theorem thn_one {S : Nat} {a : List Nat} (ha : Dt S a) : thn a (List.range S) = a := by
  unfold thn
  conv => rhs; rw [← List.map_id a]
  refine List.map_congr_left fun s hs => ?_
  rw [List.getD_eq_getElem?_getD, List.getElem?_range (ha.2 s hs)] <;> rfl
theorem one_thn {S : Nat} {b : List Nat} (hb : Dt S b) : thn (List.range S) b = b := by
  refine List.ext_getElem? fun i => ?_
  unfold thn
  rw [List.getElem?_map]
  by_cases h : i < S
  · rw [List.getElem?_range h, getD_at (by rw [hb.1]; exact h)] <;> rfl
  · rw [List.getElem?_eq_none (by rw [List.length_range]; omega), List.getElem?_eq_none (by rw [hb.1]; omega)] <;> rfl
inductive Rch (S : Nat) (M : List (List Nat)) : List Nat → Prop
  | one : Rch S M (List.range S)
  | go {d m : List Nat} : Rch S M d → m ∈ M → Rch S M (thn d m)
theorem Rch.dt {S : Nat} {M : List (List Nat)} (hM : ∀ m ∈ M, Dt S m) {d : List Nat} (r : Rch S M d) : Dt S d := by
  induction r with
  | one => exact idD_dt
  | go _ hm ih => exact thn_dt ih (hM _ hm)
structure Fam (S : Nat) (M F : List (List Nat)) : Prop where
  one : List.range S ∈ F
  cl : ∀ d ∈ F, ∀ m ∈ M, thn d m ∈ F
  rch : ∀ d ∈ F, Rch S M d
  nd : F.Nodup
theorem Fam.all {S : Nat} {M F : List (List Nat)} (f : Fam S M F) {d : List Nat} (r : Rch S M d) : d ∈ F := by
  induction r with
  | one => exact f.one
  | go _ hm ih => exact f.cl _ ih _ hm
theorem Fam.mul {S : Nat} {M F : List (List Nat)} (f : Fam S M F) (hM : ∀ m ∈ M, Dt S m) {a b : List Nat} (ha : a ∈ F) (hb : b ∈ F) : thn a b ∈ F := by
  have da := (f.rch a ha).dt hM
  have r := f.rch b hb
  induction r with
  | one => rw [thn_one da]; exact ha
  | go r hm ih => rw [← thn_assoc da (r.dt hM)]; exact f.cl _ (ih (f.all r)) _ hm
theorem nodup_le {α : Type} [DecidableEq α] : ∀ {K F : List α}, K.Nodup → (∀ d ∈ K, d ∈ F) → K.length ≤ F.length
  | [], _, _, _ => Nat.zero_le _
  | d :: K, F, nd, h => by
    rw [List.nodup_cons] at nd
    have h1 := h d List.mem_cons_self
    have h2 := nodup_le (K := K) (F := F.erase d) nd.2 fun x hx => (List.mem_erase_of_ne (fun e => nd.1 (by rw [← e]; exact hx))).mpr (h x (List.mem_cons_of_mem _ hx))
    have h3 := List.length_erase_of_mem h1
    have h4 := List.length_pos_of_mem h1
    rw [List.length_cons]
    omega
def tpw (S : Nat) (m : List Nat) : Nat → List Nat
  | 0 => List.range S
  | n + 1 => thn (tpw S m n) m
/-- the powers, told at once -/
def tpws (m : List Nat) : Nat → List Nat → List (List Nat)
  | 0, _ => []
  | n + 1, d => d :: tpws m n (thn d m)
def cyc (S : Nat) (m : List Nat) : Bool := let l := tpws m 12 (List.range S); let z := l.getD 11 []; (l.take 11).any fun d => d == z
theorem cyc1 : ∀ a, a < 1 → cyc 1 [a] = true := by decide +kernel
theorem cyc2 : ∀ a, a < 2 → ∀ b, b < 2 → cyc 2 [a, b] = true := by decide +kernel
theorem cyc3 : ∀ a, a < 3 → ∀ b, b < 3 → ∀ c, c < 3 → cyc 3 [a, b, c] = true := by decide +kernel
theorem cyc4 : ∀ a, a < 4 → ∀ b, b < 4 → ∀ c, c < 4 → ∀ d, d < 4 → cyc 4 [a, b, c, d] = true := by decide +kernel
theorem cyc5 : ∀ a, a < 5 → ∀ b, b < 5 → ∀ c, c < 5 → ∀ d, d < 5 → ∀ e, e < 5 → cyc 5 [a, b, c, d, e] = true := by decide +kernel
theorem cyc_all {S : Nat} {m : List Nat} (h1 : 1 ≤ S) (h5 : S ≤ 5) (h : Dt S m) : cyc S m = true := by
  obtain ⟨l, b⟩ := h
  match m, l, b with
  | [], l, b => have : S = 0 := l.symm; omega
  | [a], l, b => have e : S = 1 := l.symm; subst e; exact cyc1 a (b a (by simp))
  | [a, a2], l, b => have e : S = 2 := l.symm; subst e; exact cyc2 a (b a (by simp)) a2 (b a2 (by simp))
  | [a, a2, a3], l, b => have e : S = 3 := l.symm; subst e; exact cyc3 a (b a (by simp)) a2 (b a2 (by simp)) a3 (b a3 (by simp))
  | [a, a2, a3, a4], l, b => have e : S = 4 := l.symm; subst e; exact cyc4 a (b a (by simp)) a2 (b a2 (by simp)) a3 (b a3 (by simp)) a4 (b a4 (by simp))
  | [a, a2, a3, a4, a5], l, b => have e : S = 5 := l.symm; subst e; exact cyc5 a (b a (by simp)) a2 (b a2 (by simp)) a3 (b a3 (by simp)) a4 (b a4 (by simp)) a5 (b a5 (by simp))
  | _ :: _ :: _ :: _ :: _ :: _ :: r, l, b => simp at l; omega
theorem tpws_get (S : Nat) (m : List Nat) : ∀ (n k i : Nat), i < n → (tpws m n (tpw S m k))[i]? = some (tpw S m (k + i))
  | 0, _, _, h => absurd h (Nat.not_lt_zero _)
  | n + 1, k, 0, _ => rfl
  | n + 1, k, i + 1, h => by
    show (tpws m n (tpw S m (k + 1)))[i]? = _
    rw [tpws_get S m n (k + 1) i (by omega)]
    congr 2
    omega
theorem tpws_len (m : List Nat) : ∀ (n : Nat) (d : List Nat), (tpws m n d).length = n
  | 0, _ => rfl
  | n + 1, d => congrArg (· + 1) (tpws_len m n (thn d m))
theorem tpw_cyc {S : Nat} {m : List Nat} (h1 : 1 ≤ S) (h5 : S ≤ 5) (h : Dt S m) : ∃ i, i < 11 ∧ tpw S m i = tpw S m 11 := by
  have c := cyc_all h1 h5 h
  unfold cyc at c
  simp only [List.any_eq_true] at c
  obtain ⟨d, hd, e⟩ := c
  have e2 : d = (tpws m 12 (List.range S)).getD 11 [] := by simpa using e
  have e3 : (tpws m 12 (List.range S)).getD 11 [] = tpw S m 11 := by
    rw [List.getD_eq_getElem?_getD, show tpws m 12 (List.range S) = tpws m 12 (tpw S m 0) from rfl, tpws_get S m 12 0 11 (by omega)] <;> rfl
  obtain ⟨i, hi, e4⟩ := List.getElem_of_mem hd
  rw [List.length_take, tpws_len] at hi
  refine ⟨i, by omega, ?_⟩
  rw [List.getElem_take] at e4
  have e5 := tpws_get S m 12 0 i (by omega)
  rw [Nat.zero_add] at e5
  have e6 : (tpws m 12 (List.range S))[i]? = some ((tpws m 12 (List.range S))[i]'(by rw [tpws_len]; omega)) := List.getElem?_eq_getElem _
  rw [show tpws m 12 (tpw S m 0) = tpws m 12 (List.range S) from rfl, e6, e4] at e5
  rw [← Option.some.inj e5, e2, e3]
/-- one maker makes few -/
theorem one_few {S : Nat} {m : List Nat} {K : List (List Nat)} (h1 : 1 ≤ S) (h5 : S ≤ 5) (h : Dt S m) (nd : K.Nodup) (r : ∀ d ∈ K, Rch S [m] d) : K.length ≤ 11 := by
  obtain ⟨i, hi, e⟩ := tpw_cyc h1 h5 h
  have all : ∀ d, Rch S [m] d → ∃ n, n < 11 ∧ d = tpw S m n := by
    intro d r
    induction r with
    | one => exact ⟨0, by omega, rfl⟩
    | @go d m' _ hm ih =>
      cases List.mem_singleton.mp hm
      obtain ⟨n, hn, rfl⟩ := ih
      by_cases c : n + 1 < 11
      · exact ⟨n + 1, c, rfl⟩
      · have : n = 10 := by omega
        subst this
        exact ⟨i, hi, e.symm⟩
  have := nodup_le (F := (List.range 11).map (tpw S m)) nd fun d hd => by
    obtain ⟨n, hn, rfl⟩ := all d (r d hd)
    exact List.mem_map.mpr ⟨n, List.mem_range.mpr hn, rfl⟩
  rwa [List.length_map, List.length_range] at this
/-! ### families in order: plain law (wants st16d) -/
abbrev PF := List (List Nat × List Nat)
def kf (F : PF) : List (List Nat) := F.map fun x => x.1
def ap1 (F : PF) (x : List Nat × List Nat) : PF := if x.1 ∈ kf F then F else F ++ [x]
def apn (M : List (List Nat)) (d w : List Nat) : Nat → PF → PF
  | 0, F => F
  | j + 1, F => ap1 (apn M d w j F) (thn d (M.getD j []), w ++ [j])
def gp (S : Nat) (M : List (List Nat)) : Nat → PF
  | 0 => [(List.range S, [])]
  | n + 1 => match (gp S M n)[n]? with
    | some x => apn M x.1 x.2 M.length (gp S M n)
    | none => gp S M n
theorem kf_snoc {F : PF} {x : List Nat × List Nat} : kf (F ++ [x]) = kf F ++ [x.1] := by unfold kf; rw [List.map_append] <;> rfl
theorem kf_len {F : PF} : (kf F).length = F.length := by unfold kf; rw [List.length_map]
theorem ap1_pre {F : PF} {x : List Nat × List Nat} : F <+: ap1 F x := by
  unfold ap1
  split
  · exact List.prefix_refl _
  · exact List.prefix_append _ _
theorem ap1_mem {F : PF} {x : List Nat × List Nat} : x.1 ∈ kf (ap1 F x) := by
  unfold ap1
  split
  · assumption
  · rw [kf_snoc]; simp
theorem apn_pre {M : List (List Nat)} {d w : List Nat} : ∀ (j : Nat) (F : PF), F <+: apn M d w j F
  | 0, F => List.prefix_refl _
  | j + 1, F => (apn_pre j F).trans ap1_pre
theorem pre_mem {F G : PF} (h : F <+: G) {d : List Nat} (hd : d ∈ kf F) : d ∈ kf G := by
  obtain ⟨x, hx, rfl⟩ := List.mem_map.mp hd
  exact List.mem_map.mpr ⟨x, h.subset hx, rfl⟩
theorem apn_mem {M : List (List Nat)} {d w : List Nat} {F : PF} : ∀ (j i : Nat), i < j → thn d (M.getD i []) ∈ kf (apn M d w j F)
  | 0, _, h => absurd h (Nat.not_lt_zero _)
  | j + 1, i, h => by
    rcases Nat.lt_or_ge i j with c | c
    · exact pre_mem ap1_pre (apn_mem j i c)
    · obtain rfl : i = j := by omega
      exact ap1_mem
theorem gp_pre1 {S : Nat} {M : List (List Nat)} (n : Nat) : gp S M n <+: gp S M (n + 1) := by
  show _ <+: (match (gp S M n)[n]? with
    | some x => apn M x.1 x.2 M.length (gp S M n)
    | none => gp S M n)
  split
  · exact apn_pre _ _
  · exact List.prefix_refl _
theorem gp_pre {S : Nat} {M : List (List Nat)} {n : Nat} : ∀ k, gp S M n <+: gp S M (n + k)
  | 0 => List.prefix_refl _
  | k + 1 => (gp_pre k).trans (gp_pre1 (n + k))
theorem pre_get {F G : PF} (h : F <+: G) {i : Nat} {x : List Nat × List Nat} (e : F[i]? = some x) : G[i]? = some x := by
  obtain ⟨t, rfl⟩ := h
  have := (List.getElem?_eq_some_iff.mp e).1
  rw [List.getElem?_append_left this]
  exact e
theorem gp_next {S : Nat} {M : List (List Nat)} {n : Nat} {x : List Nat × List Nat} (e : (gp S M n)[n]? = some x) : gp S M (n + 1) = apn M x.1 x.2 M.length (gp S M n) := by
  show (match (gp S M n)[n]? with
    | some x => apn M x.1 x.2 M.length (gp S M n)
    | none => gp S M n) = _
  rw [e]
/-- what holds of all the states -/
structure Gq (S : Nat) (M : List (List Nat)) (F : PF) : Prop where
  nd : (kf F).Nodup
  rc : ∀ d ∈ kf F, Rch S M d
  one : List.range S ∈ kf F
  wl : ∀ x ∈ F, x.2.length < F.length
  wb : ∀ x ∈ F, Bel x.2 M.length
theorem Gq.ap {S : Nat} {M : List (List Nat)} {F : PF} (g : Gq S M F) {d w : List Nat} (h : (d, w) ∈ F) {j : Nat} (hj : j < M.length) : Gq S M (ap1 F (thn d (M.getD j []), w ++ [j])) := by
  unfold ap1
  split
  · exact g
  · rename_i c
    have hm : M.getD j [] ∈ M := by
      rw [List.getD_eq_getElem?_getD, List.getElem?_eq_getElem hj]
      exact List.getElem_mem hj
    refine ⟨?_, fun y hy => ?_, ?_, fun x hx => ?_, fun x hx => ?_⟩
    · rw [kf_snoc, List.nodup_append]
      refine ⟨g.nd, by simp, fun a ha b hb z => ?_⟩
      rw [List.mem_singleton.mp hb] at z
      exact c (z ▸ ha)
    · rw [kf_snoc] at hy
      rcases List.mem_append.mp hy with z | z
      · exact g.rc y z
      · rw [List.mem_singleton.mp z]
        exact .go (g.rc d (List.mem_map.mpr ⟨_, h, rfl⟩)) hm
    · rw [kf_snoc]
      exact List.mem_append_left _ g.one
    · rw [List.length_append]
      rcases List.mem_append.mp hx with z | z
      · have := g.wl x z
        show _ < _ + 1
        omega
      · rw [List.mem_singleton.mp z]
        have := g.wl _ h
        show (w ++ [j]).length < _ + 1
        rw [List.length_append]
        show _ + 1 < _ + 1
        have e : (d, w).2.length = w.length := rfl
        omega
    · rcases List.mem_append.mp hx with z | z
      · exact g.wb x z
      · rw [List.mem_singleton.mp z]
        intro y hy
        rcases List.mem_append.mp hy with z | z
        · exact g.wb _ h y z
        · rw [List.mem_singleton.mp z]
          exact hj
theorem Gq.apn {S : Nat} {M : List (List Nat)} {F : PF} (g : Gq S M F) {d w : List Nat} (h : (d, w) ∈ F) : ∀ j, j ≤ M.length → Gq S M (Toy.apn M d w j F)
  | 0, _ => g
  | j + 1, hj => (g.apn h j (by omega)).ap ((apn_pre j F).subset h) (by omega)
theorem gp_gq {S : Nat} {M : List (List Nat)} : ∀ n, Gq S M (gp S M n)
  | 0 => ⟨by simp [gp, kf], fun d hd => by
      have : d = List.range S := by simpa [gp, kf] using hd
      subst this
      exact .one, by simp [gp, kf], fun x hx => by
      have : x = (List.range S, []) := by simpa [gp] using hx
      subst this
      exact Nat.zero_lt_one, fun x hx => by
      have : x = (List.range S, []) := by simpa [gp] using hx
      subst this
      exact fun y hy => absurd hy List.not_mem_nil⟩
  | n + 1 => by
    cases e : (gp S M n)[n]? with
    | none =>
      have : gp S M (n + 1) = gp S M n := by
        show (match (gp S M n)[n]? with
          | some x => Toy.apn M x.1 x.2 M.length (gp S M n)
          | none => gp S M n) = _
        rw [e]
      rw [this]
      exact gp_gq n
    | some x =>
      rw [gp_next e]
      exact (gp_gq n).apn (List.mem_of_getElem? e) _ (Nat.le_refl _)
/-- the making is at its end -/
def Fin' (S : Nat) (M : List (List Nat)) (n : Nat) : Prop := n = (gp S M n).length ∧ ∀ k, k < n → k < (gp S M k).length
theorem Fin'.uniq {S : Nat} {M : List (List Nat)} {n n' : Nat} (a : Fin' S M n) (b : Fin' S M n') : n = n' := by
  rcases Nat.lt_trichotomy n n' with c | c | c
  · have := b.2 n c
    have := a.1
    omega
  · exact c
  · have := a.2 n' c
    have := b.1
    omega
theorem Fin'.fam {S : Nat} {M : List (List Nat)} {n : Nat} (a : Fin' S M n) : Fam S M (kf (gp S M n)) := by
  have g := gp_gq (S := S) (M := M) n
  refine ⟨g.one, fun d hd m hm => ?_, g.rc, g.nd⟩
  obtain ⟨x, hx, rfl⟩ := List.mem_map.mp hd
  obtain ⟨i, hi, e⟩ := List.getElem_of_mem hx
  obtain ⟨j, hj, rfl⟩ := List.getElem_of_mem hm
  have i1 : i < n := by have := a.1; omega
  have i2 := a.2 i i1
  have e1 : (gp S M i)[i]? = some (gp S M i)[i] := List.getElem?_eq_getElem i2
  have pr := gp_pre (S := S) (M := M) (n := i) (n - i)
  rw [show i + (n - i) = n by omega] at pr
  have e2 := pre_get pr e1
  rw [List.getElem?_eq_getElem hi, e] at e2
  have e3 : x = (gp S M i)[i] := Option.some.inj e2
  have pr2 := gp_pre (S := S) (M := M) (n := i + 1) (n - (i + 1))
  rw [show i + 1 + (n - (i + 1)) = n by omega] at pr2
  refine pre_mem pr2 ?_
  rw [gp_next e1, ← e3]
  have := apn_mem (M := M) (d := x.1) (w := x.2) (F := gp S M i) M.length j hj
  rwa [show M.getD j [] = M[j] from by rw [List.getD_eq_getElem?_getD, List.getElem?_eq_getElem hj] <;> rfl] at this
/-! ### states renamed; families of other makers: plain law (wants st16p) -/
theorem dt_ext {S : Nat} {a b : List Nat} (ha : a.length = S) (hb : b.length = S) (h : ∀ s, s < S → a.getD s 0 = b.getD s 0) : a = b := by
  refine List.ext_getElem? fun i => ?_
  by_cases c : i < S
  · rw [getD_at (by omega), getD_at (by omega), h i c]
  · rw [List.getElem?_eq_none (by omega), List.getElem?_eq_none (by omega)]
/-- other names of the states -/
structure Nm (S : Nat) (nm : List Nat) : Prop where
  len : nm.length = S
  bel : Bel nm S
  nd : nm.Nodup
  all : ∀ s, s < S → ∃ i, i < S ∧ nm.getD i 0 = s
theorem Nm.of {S : Nat} {nm : List Nat} (p : nm.Perm (List.range S)) : Nm S nm := by
  refine ⟨by rw [p.length_eq, List.length_range], fun x hx => List.mem_range.mp (p.mem_iff.mp hx), p.nodup_iff.mpr List.nodup_range, fun s hs => ?_⟩
  obtain ⟨i, hi, e⟩ := List.getElem_of_mem (p.mem_iff.mpr (List.mem_range.mpr hs))
  refine ⟨i, by rwa [p.length_eq, List.length_range] at hi, ?_⟩
  rw [List.getD_eq_getElem?_getD, List.getElem?_eq_getElem hi, e] <;> rfl
theorem Nm.lt {S : Nat} {nm : List Nat} (n : Nm S nm) {i : Nat} (h : i < S) : nm.getD i 0 < S := n.bel _ (getD_mem (by rw [n.len]; exact h))
theorem Nm.inj {S : Nat} {nm : List Nat} (n : Nm S nm) {i j : Nat} (hi : i < S) (hj : j < S) (e : nm.getD i 0 = nm.getD j 0) : i = j := by
  have h1 := getD_at (xs := nm) (j := i) (by rw [n.len]; exact hi)
  have h2 := getD_at (xs := nm) (j := j) (by rw [n.len]; exact hj)
  rw [e, ← h2] at h1
  exact (List.getElem?_inj (by rw [n.len]; exact hi) n.nd).mp h1
def rnl (nm d : List Nat) : Nat → List Nat
  | 0 => d
  | j + 1 => (rnl nm d j).set (nm.getD j 0) (nm.getD (d.getD j 0) 0)
def rnm (nm d : List Nat) : List Nat := rnl nm d d.length
theorem rnl_len {nm d : List Nat} : ∀ j, (rnl nm d j).length = d.length
  | 0 => rfl
  | j + 1 => by
    show ((rnl nm d j).set _ _).length = _
    rw [List.length_set, rnl_len j]
theorem getD_set_self {xs : List Nat} {i v : Nat} (h : i < xs.length) : (xs.set i v).getD i 0 = v := by
  rw [List.getD_eq_getElem?_getD, List.getElem?_set_self h] <;> rfl
theorem getD_set_ne {xs : List Nat} {i j v : Nat} (h : i ≠ j) : (xs.set i v).getD j 0 = xs.getD j 0 := by
  rw [List.getD_eq_getElem?_getD, List.getElem?_set_ne h, List.getD_eq_getElem?_getD]
theorem rnl_get {S : Nat} {nm d : List Nat} (n : Nm S nm) (hd : Dt S d) : ∀ j, j ≤ S → ∀ i, i < j → (rnl nm d j).getD (nm.getD i 0) 0 = nm.getD (d.getD i 0) 0
  | 0, _, i, h => absurd h (Nat.not_lt_zero _)
  | j + 1, hj, i, h => by
    show ((rnl nm d j).set _ _).getD _ 0 = _
    by_cases c : i = j
    · subst c
      exact getD_set_self (by rw [rnl_len, hd.1]; exact n.lt hj)
    · rw [getD_set_ne (fun e => c (n.inj (by omega) hj e.symm))]
      exact rnl_get n hd j (by omega) i (by omega)
theorem rnm_len {nm d : List Nat} : (rnm nm d).length = d.length := rnl_len _
theorem rnm_get {S : Nat} {nm d : List Nat} (n : Nm S nm) (hd : Dt S d) {i : Nat} (h : i < S) : (rnm nm d).getD (nm.getD i 0) 0 = nm.getD (d.getD i 0) 0 := by
  unfold rnm
  rw [hd.1]
  exact rnl_get n hd S (Nat.le_refl _) i h
theorem rnm_dt {S : Nat} {nm d : List Nat} (n : Nm S nm) (hd : Dt S d) : Dt S (rnm nm d) := by
  refine ⟨by rw [rnm_len, hd.1], fun x hx => ?_⟩
  obtain ⟨s, hs, e⟩ := List.getElem_of_mem hx
  rw [rnm_len, hd.1] at hs
  obtain ⟨i, hi, rfl⟩ := n.all s hs
  have h1 := rnm_get n hd hi
  rw [List.getD_eq_getElem?_getD, List.getElem?_eq_getElem (by rw [rnm_len, hd.1]; exact hs), e] at h1
  rw [show x = nm.getD (d.getD i 0) 0 from h1]
  exact n.lt (hd.2 _ (getD_mem (by rw [hd.1]; exact hi)))
theorem dt_get {S : Nat} {d : List Nat} (hd : Dt S d) {i : Nat} (h : i < S) : d.getD i 0 < S := hd.2 _ (getD_mem (by rw [hd.1]; exact h))
theorem rnm_thn {S : Nat} {nm a b : List Nat} (n : Nm S nm) (ha : Dt S a) (hb : Dt S b) : rnm nm (thn a b) = thn (rnm nm a) (rnm nm b) := by
  have hab := thn_dt ha hb
  refine dt_ext (S := S) (by rw [rnm_len, hab.1]) (thn_dt (rnm_dt n ha) (rnm_dt n hb)).1 fun s hs => ?_
  obtain ⟨i, hi, rfl⟩ := n.all s hs
  have e1 : (thn a b).getD i 0 = b.getD (a.getD i 0) 0 := getD_thn (by rw [ha.1]; exact hi)
  have e2 : (thn (rnm nm a) (rnm nm b)).getD (nm.getD i 0) 0 = (rnm nm b).getD ((rnm nm a).getD (nm.getD i 0) 0) 0 := getD_thn (by rw [rnm_len, ha.1]; exact hs)
  rw [rnm_get n hab hi, e1, e2, rnm_get n ha hi, rnm_get n hb (dt_get ha hi)]
theorem getD_range {S s : Nat} (h : s < S) : (List.range S).getD s 0 = s := by
  rw [List.getD_eq_getElem?_getD, List.getElem?_range h] <;> rfl
theorem rnm_range {S : Nat} {nm : List Nat} (n : Nm S nm) : rnm nm (List.range S) = List.range S := by
  refine dt_ext (S := S) (by rw [rnm_len, List.length_range]) List.length_range fun s hs => ?_
  obtain ⟨i, hi, rfl⟩ := n.all s hs
  rw [rnm_get n idD_dt hi, getD_range hi, getD_range hs]
theorem rnm_inj {S : Nat} {nm a b : List Nat} (n : Nm S nm) (ha : Dt S a) (hb : Dt S b) (e : rnm nm a = rnm nm b) : a = b := by
  refine dt_ext ha.1 hb.1 fun i hi => n.inj (dt_get ha hi) (dt_get hb hi) ?_
  rw [← rnm_get n ha hi, ← rnm_get n hb hi, e]
def rnp (nm : List Nat) (x : List Nat × List Nat) : List Nat × List Nat := (rnm nm x.1, x.2)
theorem kf_rnp {nm : List Nat} {F : PF} : kf (F.map (rnp nm)) = (kf F).map (rnm nm) := by unfold kf; rw [List.map_map, List.map_map] <;> rfl
theorem ap1_rnp {S : Nat} {nm : List Nat} (n : Nm S nm) {F : PF} (hF : ∀ d ∈ kf F, Dt S d) {x : List Nat × List Nat} (hx : Dt S x.1) : ap1 (F.map (rnp nm)) (rnp nm x) = (ap1 F x).map (rnp nm) := by
  have iff : (rnp nm x).1 ∈ kf (F.map (rnp nm)) ↔ x.1 ∈ kf F := by
    rw [kf_rnp]
    refine ⟨fun h => ?_, fun h => List.mem_map.mpr ⟨_, h, rfl⟩⟩
    obtain ⟨d, hd, e⟩ := List.mem_map.mp h
    rw [← rnm_inj n (hF d hd) hx e]
    exact hd
  unfold ap1
  by_cases c : x.1 ∈ kf F
  · rw [if_pos c, if_pos (iff.mpr c)]
  · rw [if_neg c, if_neg (fun h => c (iff.mp h)), List.map_append] <;> rfl
theorem getD_mapL {f : List Nat → List Nat} {M : List (List Nat)} {j : Nat} (h : j < M.length) : (M.map f).getD j [] = f (M.getD j []) := by
  rw [List.getD_eq_getElem?_getD, List.getElem?_map, List.getD_eq_getElem?_getD, List.getElem?_eq_getElem h] <;> rfl
theorem getD_memL {M : List (List Nat)} {j : Nat} (h : j < M.length) : M.getD j [] ∈ M := by
  rw [List.getD_eq_getElem?_getD, List.getElem?_eq_getElem h]
  exact List.getElem_mem h
theorem apn_rnp {S : Nat} {nm : List Nat} (n : Nm S nm) {M : List (List Nat)} (hM : ∀ m ∈ M, Dt S m) {d w : List Nat} (hd : Dt S d) {F : PF} (hF : ∀ d ∈ kf F, Dt S d) :
    ∀ j, j ≤ M.length → apn (M.map (rnm nm)) (rnm nm d) w j (F.map (rnp nm)) = (apn M d w j F).map (rnp nm) ∧ ∀ y ∈ kf (apn M d w j F), Dt S y
  | 0, _ => ⟨rfl, hF⟩
  | j + 1, hj => by
    obtain ⟨h1, h2⟩ := apn_rnp n hM hd hF j (by omega)
    have hm := hM _ (getD_memL (M := M) (j := j) (by omega))
    have e1 : (thn (rnm nm d) ((M.map (rnm nm)).getD j []), w ++ [j]) = rnp nm (thn d (M.getD j []), w ++ [j]) := by
      rw [getD_mapL (by omega), ← rnm_thn n hd hm] <;> rfl
    refine ⟨?_, fun y hy => ?_⟩
    · show ap1 (apn (M.map (rnm nm)) (rnm nm d) w j (F.map (rnp nm))) _ = _
      rw [h1, e1, ap1_rnp n h2 (thn_dt hd hm)] <;> rfl
    · have hy : y ∈ kf (ap1 (apn M d w j F) (thn d (M.getD j []), w ++ [j])) := hy
      unfold ap1 at hy
      split at hy
      · exact h2 y hy
      · rw [kf_snoc] at hy
        rcases List.mem_append.mp hy with z | z
        · exact h2 y z
        · rw [List.mem_singleton.mp z]
          exact thn_dt hd hm
theorem gp_dts {S : Nat} {M : List (List Nat)} (hM : ∀ m ∈ M, Dt S m) {n : Nat} {d : List Nat} (h : d ∈ kf (gp S M n)) : Dt S d := ((gp_gq n).rc d h).dt hM
theorem gp_rnm {S : Nat} {nm : List Nat} (n : Nm S nm) {M : List (List Nat)} (hM : ∀ m ∈ M, Dt S m) : ∀ k, gp S (M.map (rnm nm)) k = (gp S M k).map (rnp nm)
  | 0 => by
    show [(List.range S, [])] = [rnp nm (List.range S, [])]
    unfold rnp
    rw [rnm_range n]
  | k + 1 => by
    have ih := gp_rnm n hM k
    show (match (gp S (M.map (rnm nm)) k)[k]? with
      | some x => apn (M.map (rnm nm)) x.1 x.2 (M.map (rnm nm)).length (gp S (M.map (rnm nm)) k)
      | none => gp S (M.map (rnm nm)) k) = _
    rw [ih, List.getElem?_map, List.length_map]
    cases e : (gp S M k)[k]? with
    | none =>
      have : gp S M (k + 1) = gp S M k := by
        show (match (gp S M k)[k]? with
          | some x => apn M x.1 x.2 M.length (gp S M k)
          | none => gp S M k) = _
        rw [e]
      rw [this] <;> rfl
    | some x =>
      rw [gp_next e]
      have hx : Dt S x.1 := gp_dts hM (List.mem_map.mpr ⟨x, List.mem_of_getElem? e, rfl⟩)
      exact (apn_rnp n hM hx (fun d hd => gp_dts hM hd) M.length (Nat.le_refl _)).1
theorem fin_rnm {S : Nat} {nm : List Nat} (n : Nm S nm) {M : List (List Nat)} (hM : ∀ m ∈ M, Dt S m) {k : Nat} (f : Fin' S M k) : Fin' S (M.map (rnm nm)) k := by
  refine ⟨by rw [gp_rnm n hM, List.length_map]; exact f.1, fun j hj => ?_⟩
  rw [gp_rnm n hM, List.length_map]
  exact f.2 j hj
/-! other makers, the same family -/
theorem Rch.mul {S : Nat} {M : List (List Nat)} (hM : ∀ m ∈ M, Dt S m) {a b : List Nat} (ra : Rch S M a) (rb : Rch S M b) : Rch S M (thn a b) := by
  have da := ra.dt hM
  induction rb with
  | one => rw [thn_one da]; exact ra
  | go r hm ih => rw [← thn_assoc da (r.dt hM)]; exact .go ih hm
theorem Rch.sub {S : Nat} {M M' : List (List Nat)} (hM : ∀ m ∈ M, Dt S m) (h : ∀ m ∈ M', Rch S M m) {d : List Nat} (r : Rch S M' d) : Rch S M d := by
  induction r with
  | one => exact .one
  | go _ hm ih => exact ih.mul hM (h _ hm)
theorem Rch.self {S : Nat} {M : List (List Nat)} (hM : ∀ m ∈ M, Dt S m) {m : List Nat} (h : m ∈ M) : Rch S M m := by
  rw [← one_thn (hM m h)]
  exact .go .one h
theorem Fam.swap {S : Nat} {M M' F : List (List Nat)} (hM : ∀ m ∈ M, Dt S m) (hM' : ∀ m ∈ M', Dt S m) (f : Fam S M F) (h : ∀ m ∈ M', Rch S M m) (h' : ∀ m ∈ M, Rch S M' m) : Fam S M' F :=
  ⟨f.one, fun d hd m hm => f.all ((f.rch d hd).mul hM (h m hm)), fun d hd => (f.rch d hd).sub hM' h', f.nd⟩
theorem Fam.perm {S : Nat} {M F F' : List (List Nat)} (f : Fam S M F) (f' : Fam S M F') : F.Perm F' :=
  (List.perm_ext_iff_of_nodup f.nd f'.nd).mpr fun d => ⟨fun h => f'.all (f.rch d h), fun h => f.all (f'.rch d h)⟩
/-! ### deeds that keep within states, as deeds by table: plain law (wants st2r, st16p, st18d's dt_ext, getD_range, getD_memL) -/
/-- a deed that keeps within the states -/
structure Kp (S : Nat) (d : Dd) : Prop where
  ok : d.Ok
  kp : ∀ v : Int, 0 ≤ v → v < (S : Int) → 0 ≤ d.ap v ∧ d.ap v < (S : Int)
def bt (S : Nat) (d : Dd) : List Nat := (List.range S).map fun s => (d.ap (s : Nat)).toNat
theorem bt_get {S : Nat} {d : Dd} {s : Nat} (h : s < S) : (bt S d).getD s 0 = (d.ap (s : Nat)).toNat := by
  unfold bt
  rw [List.getD_eq_getElem?_getD, List.getElem?_map, List.getElem?_range h] <;> rfl
theorem bt_len {S : Nat} {d : Dd} : (bt S d).length = S := by unfold bt; rw [List.length_map, List.length_range]
theorem Kp.at_ {S : Nat} {d : Dd} (k : Kp S d) {s : Nat} (h : s < S) : ∃ r : Nat, d.ap (s : Nat) = (r : Int) ∧ r < S := by
  obtain ⟨h1, h2⟩ := k.kp (s : Nat) (by omega) (by omega)
  exact ⟨(d.ap (s : Nat)).toNat, by omega, by omega⟩
theorem bt_dt {S : Nat} {d : Dd} (k : Kp S d) : Dt S (bt S d) := by
  refine ⟨bt_len, fun x hx => ?_⟩
  obtain ⟨s, hs, rfl⟩ := List.mem_map.mp hx
  obtain ⟨r, e, hr⟩ := k.at_ (List.mem_range.mp hs)
  rw [e, Int.toNat_natCast]
  exact hr
theorem Kp.beh {S : Nat} {a b : Dd} (ka : Kp S a) (kb : Kp S b) : Kp S (beh a b) := ⟨beh_ok ka.ok kb.ok, fun v h0 h1 => by
  obtain ⟨x0, x1⟩ := ka.kp v h0 h1
  rw [beh_ap ka.ok kb.ok]
  exact kb.kp _ x0 x1⟩
theorem Kp.look {S : Nat} : Kp S look := ⟨look_ok, fun v h0 h1 => by rw [look_ap]; exact ⟨h0, h1⟩⟩
theorem bt_beh {S : Nat} {a b : Dd} (ka : Kp S a) (kb : Kp S b) : thn (bt S a) (bt S b) = bt S (Toy.beh a b) := by
  refine dt_ext (S := S) (thn_dt (bt_dt ka) (bt_dt kb)).1 bt_len fun s hs => ?_
  obtain ⟨r, e, hr⟩ := ka.at_ hs
  have e1 : (thn (bt S a) (bt S b)).getD s 0 = (bt S b).getD ((bt S a).getD s 0) 0 := getD_thn (by rw [bt_len]; exact hs)
  rw [e1, bt_get hs, e, Int.toNat_natCast, bt_get hr, bt_get hs, beh_ap ka.ok kb.ok, e]
theorem bt_look {S : Nat} : bt S Toy.look = List.range S := by
  refine dt_ext (S := S) bt_len List.length_range fun s hs => ?_
  rw [bt_get hs, look_ap, Int.toNat_natCast, getD_range hs]
/-- words -/
def wdT (S : Nat) (M : List (List Nat)) (w : List Nat) : List Nat := w.foldl (fun d j => thn d (M.getD j [])) (List.range S)
theorem wdT_snoc {S : Nat} {M : List (List Nat)} {w : List Nat} {j : Nat} : wdT S M (w ++ [j]) = thn (wdT S M w) (M.getD j []) := by
  unfold wdT
  rw [List.foldl_append] <;> rfl
theorem gp_wd {S : Nat} {M : List (List Nat)} : ∀ n, ∀ x ∈ gp S M n, x.1 = wdT S M x.2
  | 0, x, h => by
    cases List.mem_singleton.mp h
    rfl
  | n + 1, x, h => by
    have ih := gp_wd (S := S) (M := M) n
    cases e : (gp S M n)[n]? with
    | none =>
      have e2 : gp S M (n + 1) = gp S M n := by
        show (match (gp S M n)[n]? with
          | some x => apn M x.1 x.2 M.length (gp S M n)
          | none => gp S M n) = _
        rw [e]
      rw [e2] at h
      exact ih x h
    | some y =>
      rw [gp_next e] at h
      have hy := ih y (List.mem_of_getElem? e)
      have all : ∀ j, ∀ z ∈ apn M y.1 y.2 j (gp S M n), z.1 = wdT S M z.2 := fun j => by
        induction j with
        | zero => exact ih
        | succ j ihj =>
          intro z hz
          have hz : z ∈ ap1 (apn M y.1 y.2 j (gp S M n)) (thn y.1 (M.getD j []), y.2 ++ [j]) := hz
          unfold ap1 at hz
          split at hz
          · exact ihj z hz
          · rcases List.mem_append.mp hz with q | q
            · exact ihj z q
            · cases List.mem_singleton.mp q
              show thn y.1 (M.getD j []) = wdT S M (y.2 ++ [j])
              rw [wdT_snoc, hy]
      exact all _ x h
def dsw (ds : List Dd) (w : List Nat) : List Dd := w.map fun i => ds.getD i look
theorem dsw_kp {S : Nat} {ds : List Dd} (h : ∀ d ∈ ds, Kp S d) (w : List Nat) : ∀ d ∈ dsw ds w, Kp S d := fun d hd => by
  obtain ⟨i, _, rfl⟩ := List.mem_map.mp hd
  rw [List.getD_eq_getElem?_getD]
  cases e : ds[i]? with
  | none => exact Kp.look
  | some x => exact h x (List.mem_of_getElem? e)
theorem behs_kp {S : Nat} : ∀ {ds : List Dd}, (∀ d ∈ ds, Kp S d) → Kp S (behs ds) := by
  intro ds
  induction ds using snoc_ind with
  | nil => exact fun _ => Kp.look
  | snoc ds d ih =>
    intro h
    rw [behs_snoc]
    exact (ih fun x hx => h x (List.mem_append_left _ hx)).beh (h d (List.mem_append_right _ List.mem_cons_self))
theorem bt_behs {S : Nat} {ds : List Dd} (h : ∀ d ∈ ds, Kp S d) {w : List Nat} (hw : Bel w ds.length) : bt S (behs (dsw ds w)) = wdT S (ds.map (bt S)) w := by
  induction w using snoc_ind with
  | nil => exact bt_look
  | snoc w j ih =>
    have hj : j < ds.length := hw j (List.mem_append_right _ List.mem_cons_self)
    have e : dsw ds (w ++ [j]) = dsw ds w ++ [ds.getD j look] := by unfold dsw; rw [List.map_append] <;> rfl
    have kj : Kp S (ds.getD j look) := by
      rw [List.getD_eq_getElem?_getD, List.getElem?_eq_getElem hj]
      exact h _ (List.getElem_mem hj)
    have e2 : (ds.map (bt S)).getD j [] = bt S (ds.getD j look) := by
      rw [List.getD_eq_getElem?_getD, List.getElem?_map, List.getD_eq_getElem?_getD, List.getElem?_eq_getElem hj] <;> rfl
    rw [e, behs_snoc, ← bt_beh (behs_kp (dsw_kp h w)) kj, ih fun x hx => hw x (List.mem_append_left _ hx), wdT_snoc, e2]
/-- answers by how many are ahead -/
theorem ans_get : ∀ (ds : List Dd) (v : Int), ans v ds = (List.range ds.length).map fun k => aps v (ds.take k)
  | [], _ => rfl
  | d :: r, v => by
    show v :: ans (d.ap v) r = _
    rw [ans_get r (d.ap v), List.length_cons, List.range_succ_eq_map, List.map_cons, List.map_map] <;> rfl
/-- few deeds by table come of deeds that are drawn so -/
def clT (S a l h : Nat) : List Nat := (List.range S).map fun s : Nat => (min (h : Int) (max (l : Int) ((s : Int) + ((a : Int) - 5)))).toNat
def ddp (xs : List (List Nat)) : List (List Nat) := xs.foldl (fun acc x => if acc.contains x then acc else acc ++ [x]) []
def clL (S : Nat) : List (List Nat) := ddp ((List.range 11).flatMap fun a => (List.range S).flatMap fun l => (List.range S).filterMap fun h => if l ≤ h then some (clT S a l h) else none)
/-- a deed that is drawn so -/
def Cl (S : Nat) (d : Dd) : Prop := ∃ a l h : Nat, a < 11 ∧ l ≤ h ∧ h < S ∧ d.low = some (l : Int) ∧ d.high = some (h : Int) ∧ (d.add = (a : Int) - 5 ∨ (l = h ∧ d.add = 0)) ∧ d.Ok
theorem Cl.ap {S : Nat} {d : Dd} (c : Cl S d) : ∃ a l h : Nat, a < 11 ∧ l ≤ h ∧ h < S ∧ ∀ v : Int, d.ap v = min (h : Int) (max (l : Int) (v + ((a : Int) - 5))) := by
  obtain ⟨a, l, h, h1, h2, h3, h4, h5, h6, ok⟩ := c
  refine ⟨a, l, h, h1, h2, h3, fun v => ?_⟩
  rw [ap_ss d v _ _ h4 h5]
  rcases h6 with h6 | ⟨h6, h7⟩
  · rw [h6]
    split <;> split <;> omega
  · subst h6
    rw [h7]
    split <;> split <;> omega
theorem Cl.kp {S : Nat} {d : Dd} (c : Cl S d) : Kp S d := by
  obtain ⟨a, l, h, h1, h2, h3, e⟩ := c.ap
  obtain ⟨_, _, _, _, _, _, _, _, _, ok⟩ := c
  exact ⟨ok, fun v _ _ => by rw [e]; omega⟩
theorem Cl.ins {S : Nat} {d : Dd} (c : Cl S d) (s5 : S ≤ 5) : d.In 10 := by
  obtain ⟨a, l, h, h1, h2, h3, h4, h5, h6, ok⟩ := c
  refine ⟨by omega, by omega, fun x hx => ?_, fun x hx => ?_⟩
  · rw [h4] at hx; cases hx; omega
  · rw [h5] at hx; cases hx; omega
theorem Cl.bt {S : Nat} {d : Dd} (c : Cl S d) : ∃ a l h : Nat, a < 11 ∧ l ≤ h ∧ h < S ∧ Toy.bt S d = clT S a l h := by
  obtain ⟨a, l, h, h1, h2, h3, e⟩ := c.ap
  refine ⟨a, l, h, h1, h2, h3, ?_⟩
  unfold Toy.bt clT
  exact List.map_congr_left fun s _ => by rw [e]
theorem clL_memb : ((List.range 6).all fun S => (List.range 11).all fun a => (List.range S).all fun h => (List.range (h + 1)).all fun l => (clL S).contains (clT S a l h)) = true := by decide +kernel
theorem clL_mem (S : Nat) (hS : S ≤ 5) (a : Nat) (ha : a < 11) (h : Nat) (hh : h < S) (l : Nat) (_ : l < S) (hl : l ≤ h) : clT S a l h ∈ clL S := by
  have z := List.all_eq_true.mp clL_memb S (List.mem_range.mpr (by omega))
  have z := List.all_eq_true.mp z a (List.mem_range.mpr ha)
  have z := List.all_eq_true.mp z h (List.mem_range.mpr hh)
  have z := List.all_eq_true.mp z l (List.mem_range.mpr (by omega))
  exact List.contains_iff_mem.mp z
theorem clL_id : ∀ S, S ≤ 5 → 1 ≤ S → List.range S ∈ clL S := by decide +kernel
theorem clL_cl : ∀ S, S ≤ 5 → ∀ a ∈ clL S, ∀ b ∈ clL S, thn a b ∈ clL S := by decide +kernel
theorem clL_len : ∀ S, S ≤ 5 → (clL S).length ≤ 60 := by decide +kernel
theorem clL_nd : ∀ S, S ≤ 5 → (clL S).Nodup := by decide +kernel
theorem cl_rch {S : Nat} {ds : List Dd} (s1 : 1 ≤ S) (s5 : S ≤ 5) (h : ∀ d ∈ ds, Cl S d) {x : List Nat} (r : Rch S (ds.map (bt S)) x) : x ∈ clL S := by
  induction r with
  | one => exact clL_id S s5 s1
  | go _ hm ih =>
    obtain ⟨d, hd, rfl⟩ := List.mem_map.mp hm
    obtain ⟨a, l, g, h1, h2, h3, e⟩ := (h d hd).bt
    rw [e]
    exact clL_cl S s5 _ ih _ (clL_mem S s5 a h1 g h3 l (by omega) h2)
open Classical in
theorem cl_fam {S : Nat} {ds : List Dd} (s1 : 1 ≤ S) (s5 : S ≤ 5) (h : ∀ d ∈ ds, Cl S d) : ∃ F, Fam S (ds.map (bt S)) F ∧ F.length ≤ 60 := by
  refine ⟨(clL S).filter fun d => decide (Rch S (ds.map (bt S)) d), ⟨?_, fun d hd m hm => ?_, fun d hd => ?_, (clL_nd S s5).filter _⟩, Nat.le_trans (List.length_filter_le _ _) (clL_len S s5)⟩
  · exact List.mem_filter.mpr ⟨clL_id S s5 s1, decide_eq_true .one⟩
  · have r := Rch.go (of_decide_eq_true (List.mem_filter.mp hd).2) hm
    exact List.mem_filter.mpr ⟨cl_rch s1 s5 h r, decide_eq_true r⟩
  · exact of_decide_eq_true (List.mem_filter.mp hd).2
theorem whole_bt {S : Nat} {ds : List Dd} (h : ∀ d ∈ ds, Kp S d) (n : Nat) : ((gp S (ds.map (bt S)) n).map fun x => x.2).map (fun w => bt S (behs (dsw ds w))) = kf (gp S (ds.map (bt S)) n) := by
  rw [List.map_map]
  unfold kf
  refine List.map_congr_left fun x hx => ?_
  have hb := (gp_gq (S := S) (M := ds.map (bt S)) n).wb x hx
  rw [List.length_map] at hb
  show bt S (behs (dsw ds x.2)) = x.1
  rw [bt_behs h hb, gp_wd n x hx]
theorem getD_mem_look {ds : List Dd} {i : Nat} (h : i < ds.length) : ds.getD i look ∈ ds := by
  rw [List.getD_eq_getElem?_getD, List.getElem?_eq_getElem h]
  exact List.getElem_mem h
theorem dsw_take {ds : List Dd} {w : List Nat} {k : Nat} : (dsw ds w).take k = dsw ds (w.take k) := by unfold dsw; rw [List.map_take]
theorem dsw_len {ds : List Dd} {w : List Nat} : (dsw ds w).length = w.length := by unfold dsw; rw [List.length_map]
theorem map_bt_get {S : Nat} {W : List Dd} {i : Nat} (h : i < W.length) : (W.map (bt S)).getD i [] = bt S (W.getD i look) := by
  rw [List.getD_eq_getElem?_getD, List.getElem?_map, List.getD_eq_getElem?_getD, List.getElem?_eq_getElem h] <;> rfl
/-! ### powers of deeds by table: plain law (wants st19d, st1a, st1sp, st16dx) -/
theorem clL_len40 : ∀ S, S ≤ 5 → (clL S).length ≤ 40 := by decide +kernel
theorem cl_fam40 {S : Nat} {ds : List Dd} {F : List (List Nat)} (s1 : 1 ≤ S) (s5 : S ≤ 5) (h : ∀ d ∈ ds, Cl S d) (f : Fam S (ds.map (bt S)) F) : F.length ≤ 40 :=
  Nat.le_trans (nodup_le f.nd fun d hd => cl_rch s1 s5 h (f.rch d hd)) (clL_len40 S s5)
theorem pw_kp {S : Nat} {d : Dd} (k : Kp S d) : ∀ n, Kp S (pw d n)
  | 0 => Kp.look
  | n + 1 => (pw_kp k n).beh k
theorem tpw_bt {S : Nat} {d : Dd} (k : Kp S d) : ∀ n, tpw S (bt S d) n = bt S (pw d n)
  | 0 => bt_look.symm
  | n + 1 => by
    show thn (tpw S (bt S d) n) (bt S d) = bt S (beh (pw d n) d)
    rw [tpw_bt k n, bt_beh (pw_kp k n) k]
theorem tpw_dt {S : Nat} {m : List Nat} (h : Dt S m) : ∀ n, Dt S (tpw S m n)
  | 0 => idD_dt
  | n + 1 => thn_dt (tpw_dt h n) h
theorem tpw_sh {S : Nat} {m : List Nat} {a b : Nat} (e : tpw S m a = tpw S m b) : ∀ j, tpw S m (a + j) = tpw S m (b + j)
  | 0 => e
  | j + 1 => congrArg (fun d => thn d m) (tpw_sh e j)
theorem tpw_rot {S : Nat} {m : List Nat} {k p : Nat} (e : tpw S m (k + p) = tpw S m k) (r : Nat) : ∀ q, tpw S m (k + (q * p + r)) = tpw S m (k + r)
  | 0 => by rw [Nat.zero_mul, Nat.zero_add]
  | q + 1 => by
    have h := tpw_sh e (q * p + r)
    rw [show k + p + (q * p + r) = k + ((q + 1) * p + r) by rw [Nat.succ_mul]; omega] at h
    rw [h, tpw_rot e r q]
theorem tpw_per {S : Nat} {m : List Nat} {k n : Nat} (hk : k < 12) (e : tpw S m k = tpw S m 12) (hn : 12 ≤ n) : tpw S m n = tpw S m (k + (n - 12) % (12 - k)) := by
  have e1 : tpw S m n = tpw S m (k + (n - 12)) := by
    have := tpw_sh e (n - 12)
    rw [this]
    congr 1
    omega
  have e2 : tpw S m (k + (12 - k)) = tpw S m k := by rw [show k + (12 - k) = 12 by omega, e]
  have e3 := tpw_rot e2 ((n - 12) % (12 - k)) ((n - 12) / (12 - k))
  rw [Nat.mul_comm, Nat.div_add_mod] at e3
  rw [e1, e3]
theorem tpw_found {S : Nat} {m : List Nat} (h1 : 1 ≤ S) (h5 : S ≤ 5) (h : Dt S m) : ∃ k, k < 12 ∧ tpw S m k = tpw S m 12 := by
  obtain ⟨i, hi, e⟩ := tpw_cyc h1 h5 h
  exact ⟨i + 1, by omega, tpw_sh e 1⟩
/-- asks of the box 1 alone -/
theorem play_one {a b : Int} : ∀ (as : List Ak) (acc : List Int), (∀ x ∈ as, x.box = 1) → as.foldl stepP (acc, [a, b]) = (acc ++ ans b (as.map fun x => x.d), [a, aps b (as.map fun x => x.d)])
  | [], acc, _ => by simp [ans, aps]
  | x :: as, acc, h => by
    have hx : x.box = 1 := h x List.mem_cons_self
    rw [List.foldl_cons]
    have e : stepP (acc, [a, b]) x = (acc ++ [b], [a, x.d.ap b]) := by
      unfold stepP
      rw [hx] <;> rfl
    rw [e, play_one as _ fun y hy => h y (List.mem_cons_of_mem _ hy), List.append_assoc] <;> rfl
theorem made_one : ∀ {as : List Ak}, (∀ x ∈ as, x.box = 1) → (madeOf as 2).2 = [look, behs (as.map fun x => x.d)] := by
  intro as
  induction as using snoc_ind with
  | nil => exact fun _ => rfl
  | snoc as x ih =>
    intro h
    have hx : x.box = 1 := h x (List.mem_append_right _ List.mem_cons_self)
    rw [made_app, List.map_append]
    show (stepM (madeOf as 2) x).2 = [look, behs ((as.map fun x => x.d) ++ [x.d])]
    rw [behs_snoc]
    show (madeOf as 2).2.set x.box (beh ((madeOf as 2).2.getD x.box look) x.d) = _
    rw [ih fun y hy => h y (List.mem_append_left _ hy), hx] <;> rfl
/-! SPLIT -/
section
variable {P : Program} {w : World} {K : PySem.W.Frag} {mg : Str → Option Value} {base : Heap} (B : Bl K mg)
include B
/-! ### the program -/
def spIsWhole : Sp := fun vs H Q _ => ∃ i, vs = [.int i] ∧ Q (.bl true) H
theorem k_is_whole (D : Df K mg "is_whole" s_is_whole ["thing"]) : Dn P w K mg base 1 "is_whole" ["thing"] spIsWhole := by
  refine D.ok fun f fd F => okG0 F sc_is_whole (fun vs H Q E h => ?_) (fun cdv A outer s H vs Q E hr h => ⟨_, (pss_one (ps_ret (pe_and (pe_callB (kk (K := K) (F := rIsi) (P := CallR _ _) call_isi) (by rfl) B.isinstance_ (by decide +kernel) (pa_cons (pv 0) (pa_cons (pe_bltn (v := .ty "int") (u := .type "int") (by rfl) B.int_ (by decide +kernel) rfl) pa_nil))) (pe_one (pe_not (pe_callB (kk (K := K) (F := rIsi) (P := CallR _ _) call_isi) (by rfl) B.isinstance_ (by decide +kernel) (pa_cons (pv 0) (pa_cons (pe_bltn (v := .ty "bool") (u := .type "bool") (by rfl) B.bool_ (by decide +kernel) rfl) pa_nil)))))))), ?_⟩)
  · obtain ⟨i, rfl, _⟩ := h; rfl
  · obtain ⟨i, rfl, q⟩ := h
    refine ⟨_, rfl, _, _, _, _, _, rfl, .ty _, .base (.int _), kit_ty (b := "int") (r := true) (by decide +kernel), _, rfl, iteT ?_⟩
    refine ⟨_, rfl, _, _, _, _, _, rfl, .ty _, .base (.int _), kit_ty (b := "bool") (r := false) (by decide +kernel), _, rfl, ?_⟩
    exact q
def spIsRow (K : PySem.W.Frag) : Sp := fun vs H Q _ => ∃ (a : Addr) (xs : List V) (n : Int), vs = [.ref a, .int n] ∧ TyX K H (.ref a) (.type "tuple") ∧ SqT K H a xs ∧ Q (.bl (decide (V.int (xs.length : Int) = V.int n))) H
theorem k_is_row_of (D : Df K mg "is_row_of" s_is_row_of ["thing", "many"]) : Dn P w K mg base 1 "is_row_of" ["thing", "many"] (spIsRow K) := by
  refine D.ok fun f fd F => okG0 F sc_is_row_of (fun vs H Q E h => ?_) (fun cdv A outer s H vs Q E hr h => ⟨_, (pss_one (ps_ret (pe_and (pe_callB (kk (K := K) (F := rIsi) (P := CallR _ _) call_isi) (by rfl) B.isinstance_ (by decide +kernel) (pa_cons (pv 0) (pa_cons (pe_bltn (v := .ty "tuple") (u := .type "tuple") (by rfl) B.tuple_ (by decide +kernel) rfl) pa_nil))) (pe_one (pe_cmpR op_eq (pe_callB (lenK (K := K)) (by rfl) B.len_ (by decide +kernel) (pa_cons (pv 0) pa_nil)) (pv 1) (nomark _)))))), ?_⟩)
  · obtain ⟨a, xs, i, rfl, _⟩ := h; rfl
  · obtain ⟨a, xs, i, rfl, ht, hx, q⟩ := h
    refine ⟨_, rfl, _, _, _, _, _, rfl, .ty _, ht, kit_ty (b := "tuple") (r := true) (by decide +kernel), _, rfl, iteT ?_⟩
    exact ⟨_, rfl, a, xs, rfl, .inr hx, _, rfl, rfl, q⟩
def spWantWhole : Sp := fun vs H Q _ => ∃ i, vs = [.int i] ∧ Q .non H
theorem k_want_whole (D : Df K mg "want_whole" s_want_whole ["thing"]) (D_is_whole : Dn P w K mg base 1 "is_whole" ["thing"] spIsWhole) : Dn P w K mg base 2 "want_whole" ["thing"] spWantWhole := by
  refine D.ok fun f fd F => okG0 F sc_want_whole (fun vs H Q E h => ?_) (fun cdv A outer s H vs Q E hr h => ⟨_, (pss_one (ps_if (pt_not (pt_val (pe_cD D_is_whole (hr.less (by decide)) rfl (pa_cons (pv 0) pa_nil))))
     (pss_one ps_never)
     pss_nil)), ?_⟩)
  · obtain ⟨i, rfl, _⟩ := h; rfl
  · obtain ⟨i, rfl, q⟩ := h
    exact ⟨_, rfl, i, rfl, _, rfl, iteF q⟩
def spIsEnd : Sp := fun vs H Q _ => ∃ o, vs = [oV o] ∧ Q (.bl true) H
theorem k_is_end (D : Df K mg "is_end" s_is_end ["thing"]) (D_is_whole : Dn P w K mg base 1 "is_whole" ["thing"] spIsWhole) : Dn P w K mg base 2 "is_end" ["thing"] spIsEnd := by
  refine D.ok fun f fd F => okG0 F sc_is_end (fun vs H Q E h => ?_) (fun cdv A outer s H vs Q E hr h => ⟨_, (pss_one (ps_ret (pe_or (pe_cmpR op_isN (pv 0) pe_non (nomark _)) (pe_one (pe_cD D_is_whole (hr.less (by decide)) rfl (pa_cons (pv 0) pa_nil)))))), ?_⟩)
  · obtain ⟨i, rfl, _⟩ := h; rfl
  · obtain ⟨o, rfl, q⟩ := h
    cases o with
    | none => exact ⟨_, rfl, rfl, _, rfl, iteT q⟩
    | some i => exact ⟨_, rfl, rfl, _, rfl, iteF ⟨_, rfl, i, rfl, q⟩⟩
def spIsDeed (K : PySem.W.Frag) : Sp := fun vs H Q _ => ∃ a d, vs = [.ref a] ∧ DeedArg K H a d ∧ Q (.bl true) H
theorem k_is_deed (D : Df K mg "is_deed" s_is_deed ["thing"]) (D_is_whole : Dn P w K mg base 1 "is_whole" ["thing"] spIsWhole) (D_is_row_of : Dn P w K mg base 1 "is_row_of" ["thing", "many"] (spIsRow K)) (D_is_end : Dn P w K mg base 2 "is_end" ["thing"] spIsEnd) : Dn P w K mg base 3 "is_deed" ["thing"] (spIsDeed K) := by
  refine D.ok fun f fd F => okG0 F sc_is_deed (fun vs H Q E h => ?_) (fun cdv A outer s H vs Q E hr h => ⟨_, (pss_cons (ps_if (PW.pt (pw_or (pt_not (pt_val (pe_cD D_is_row_of (hr.less (by decide)) rfl (pa_cons (pv 0) (pa_cons pe_int pa_nil))))) (pw_or (pt_not (pt_val (pe_cD D_is_whole (hr.less (by decide)) rfl (pa_cons (pe_ix (kk (K := K) (F := rIxT) (P := IxR _) ix_tup) (pv 0) pe_int (fun _ _ => rfl)) pa_nil)))) (pw_or (pt_not (pt_val (pe_cD D_is_end (hr.less (by decide)) rfl (pa_cons (pe_ix (kk (K := K) (F := rIxT) (P := IxR _) ix_tup) (pv 0) pe_int (fun _ _ => rfl)) pa_nil)))) (pw_or1 (pt_not (pt_val (pe_cD D_is_end (hr.less (by decide)) rfl (pa_cons (pe_ix (kk (K := K) (F := rIxT) (P := IxR _) ix_tup) (pv 0) pe_int (fun _ _ => rfl)) pa_nil)))))))))
      (pss_one (ps_ret pe_bl))
      pss_nil)
    (pss_cons (ps_asg (pv 0) (kk (K := K) (F := fun K => gTup K 3 _) (P := PG _ _) (pg_tup rfl (pgs_cons (pg_name (i := 1) sc_is_deed.nd rfl (Or.inl rfl)) (pgs_cons (pg_name (i := 2) sc_is_deed.nd rfl (Or.inl rfl)) (pgs_cons (pg_name (i := 3) sc_is_deed.nd rfl (Or.inl rfl)) pgs_nil))))))
    (pss_cons (ps_if (PW.pt (pw_or (pt_cmpR op_isN (pv 2) pe_non (nomark _)) (pw_or1 (pt_cmpR op_isN (pv 3) pe_non (nomark _)))))
      (pss_one (ps_ret pe_bl))
      pss_nil)
    (pss_one (ps_ret (pe_or (pe_cmpR op_lt (pv 2) (pv 3) (nomark _)) (pe_one (pe_and (pe_cmpR op_eq (pv 2) (pv 3) (nomark _)) (pe_one (pe_cmpR op_eq (pv 1) pe_int (nomark _))))))))))), ?_⟩)
  · obtain ⟨a, d, rfl, _⟩ := h; rfl
  · obtain ⟨a, d, rfl, ⟨ht, hx, ok⟩, q⟩ := h
    refine ⟨_, rfl, a, _, 3, rfl, ht, hx, _, rfl, iteF ?_⟩
    refine ⟨_, rfl, a, _, _, _, rfl, rfl, hx, at_of (j := 0) rfl rfl, _, rfl, _, rfl, iteF ?_⟩
    refine ⟨_, rfl, a, _, _, _, rfl, rfl, hx, at_of (j := 1) rfl rfl, d.low, rfl, _, rfl, iteF ?_⟩
    refine ⟨_, rfl, a, _, _, _, rfl, rfl, hx, at_of (j := 2) rfl rfl, d.high, rfl, _, rfl, iteF ?_⟩
    refine ⟨_, rfl, a, _, rfl, hx, rfl, _, _, rfl, _, _, rfl, _, _, rfl, rfl, ?_⟩
    obtain ⟨add, low, high⟩ := d
    cases low with
    | none => exact ⟨_, rfl, rfl, _, rfl, iteT (iteT q)⟩
    | some l =>
      refine ⟨_, rfl, rfl, _, rfl, iteF ?_⟩
      cases high with
      | none => exact ⟨_, rfl, rfl, _, rfl, iteT q⟩
      | some h =>
        refine ⟨_, rfl, rfl, _, rfl, iteF ?_⟩
        refine ⟨_, rfl, _, rfl, _, _, rfl, rfl, _, rfl, ite2 (fun c => q) (fun c => ?_)⟩
        have := ok l h rfl rfl
        have c' : ¬ l < h := of_decide_eq_false (Bool.eq_false_iff.mpr c)
        obtain ⟨e1, e2⟩ : l = h ∧ add = 0 := by
          rcases this with h1 | h1
          · exact absurd h1 c'
          · exact h1
        subst e1 e2
        refine ⟨_, rfl, _, rfl, rfl, _, rfl, ?_⟩
        exact ifT (decide_eq_true rfl) ⟨_, rfl, rfl, q⟩
def spWantDeed (K : PySem.W.Frag) : Sp := fun vs H Q _ => ∃ a d, vs = [.ref a] ∧ DeedArg K H a d ∧ Q .non H
theorem k_want_deed (D : Df K mg "want_deed" s_want_deed ["thing"]) (D_is_deed : Dn P w K mg base 3 "is_deed" ["thing"] (spIsDeed K)) : Dn P w K mg base 4 "want_deed" ["thing"] (spWantDeed K) := by
  refine D.ok fun f fd F => okG0 F sc_want_deed (fun vs H Q E h => ?_) (fun cdv A outer s H vs Q E hr h => ⟨_, (pss_one (ps_if (pt_not (pt_val (pe_cD D_is_deed (hr.less (by decide)) rfl (pa_cons (pv 0) pa_nil))))
     (pss_one ps_never)
     pss_nil)), ?_⟩)
  · obtain ⟨a, d, rfl, _⟩ := h; rfl
  · obtain ⟨a, d, rfl, hd, q⟩ := h
    exact ⟨_, rfl, a, d, rfl, hd, _, rfl, iteF q⟩
def spPut (K : PySem.W.Frag) : Sp := fun vs H Q _ => ∃ a d v, vs = [.ref a, .int v] ∧ SqT K H a (Dd.vs d) ∧ Q (.int (d.ap v)) H
theorem k_put_through (D : Df K mg "put_through" s_put_through ["deed", "value"]) : Dn P w K mg base 1 "put_through" ["deed", "value"] (spPut K) := by
  refine D.ok fun f fd F => okG0 F sc_put_through (fun vs H Q E h => ?_) (fun cdv A outer s H vs Q E hr h => ⟨_, (pss_cons (ps_asg (pv 0) (kk (K := K) (F := fun K => gTup K 3 _) (P := PG _ _) (pg_tup rfl (pgs_cons (pg_name (i := 2) sc_put_through.nd rfl (Or.inl rfl)) (pgs_cons (pg_name (i := 3) sc_put_through.nd rfl (Or.inl rfl)) (pgs_cons (pg_name (i := 4) sc_put_through.nd rfl (Or.inl rfl)) pgs_nil))))))
    (pss_cons (ps_set (i := 5) sc_put_through.nd rfl (Or.inl rfl) (pe_op op_add (pv 1) (pv 2)))
    (pss_cons (ps_if (pt_cmpR op_notN (pv 3) pe_non (nomark _))
      (pss_one (ps_set (i := 5) sc_put_through.nd rfl (Or.inl rfl) (pe_callB (call_max2 rfl) (by rfl) B.max_ (by decide +kernel) (pa_cons (pv 3) (pa_cons (pv 5) pa_nil)))))
      pss_nil)
    (pss_one (ps_ret (pe_ifExp (pt_cmpR op_isN (pv 4) pe_non (nomark _)) (pv 5) (pe_callB (call_min2 rfl) (by rfl) B.min_ (by decide +kernel) (pa_cons (pv 4) (pa_cons (pv 5) pa_nil))))))))), ?_⟩)
  · obtain ⟨a, d, v, rfl, _⟩ := h; rfl
  · obtain ⟨a, d, v, rfl, hx, q⟩ := h
    refine ⟨_, rfl, a, _, rfl, hx, rfl, _, _, rfl, _, _, rfl, _, _, rfl, rfl, ?_⟩
    refine ⟨_, rfl, _, rfl, _, _, rfl, rfl, ?_⟩
    obtain ⟨add, low, high⟩ := d
    cases low with
    | none =>
      refine ⟨_, rfl, rfl, _, rfl, iteF ?_⟩
      cases high with
      | none => exact ⟨_, rfl, rfl, _, rfl, iteT ⟨_, rfl, q⟩⟩
      | some h => exact ⟨_, rfl, rfl, _, rfl, iteF ⟨_, rfl, _, rfl, _, _, rfl, q⟩⟩
    | some l =>
      refine ⟨_, rfl, rfl, _, rfl, iteT ⟨_, rfl, _, rfl, _, _, rfl, ?_⟩⟩
      cases high with
      | none => exact ⟨_, rfl, rfl, _, rfl, iteT ⟨_, rfl, q⟩⟩
      | some h => exact ⟨_, rfl, rfl, _, rfl, iteF ⟨_, rfl, _, rfl, _, _, rfl, q⟩⟩
def spDone (K : PySem.W.Frag) : Sp := fun vs H Q _ => ∃ a d v, vs = [.ref a, .int v] ∧ DeedArg K H a d ∧ Q (.int (d.ap v)) H
theorem k_done (D : Df K mg "done" s_done ["deed", "value"]) (D_want_whole : Dn P w K mg base 2 "want_whole" ["thing"] spWantWhole) (D_want_deed : Dn P w K mg base 4 "want_deed" ["thing"] (spWantDeed K)) (D_put_through : Dn P w K mg base 1 "put_through" ["deed", "value"] (spPut K)) : Dn P w K mg base 5 "done" ["deed", "value"] (spDone K) := by
  refine D.ok fun f fd F => okG0 F sc_done (fun vs H Q E h => ?_) (fun cdv A outer s H vs Q E hr h => ⟨_, (pss_cons (ps_expr (pe_cD D_want_whole (hr.less (by decide)) rfl (pa_cons (pv 1) pa_nil)))
    (pss_cons (ps_expr (pe_cD D_want_deed (hr.less (by decide)) rfl (pa_cons (pv 0) pa_nil)))
    (pss_one (ps_ret (pe_cD D_put_through (hr.less (by decide)) rfl (pa_cons (pv 0) (pa_cons (pv 1) pa_nil))))))), ?_⟩)
  · obtain ⟨a, d, v, rfl, _⟩ := h; rfl
  · obtain ⟨a, d, v, rfl, hd, q⟩ := h
    exact ⟨_, rfl, v, rfl, _, rfl, a, d, rfl, hd, _, rfl, _, rfl, a, d, v, rfl, hd.2.1, q⟩
def spWholeDeed : Sp := fun vs H Q _ => ∃ (add : Int) (low high : Option Int), vs = [.int add, oV low, oV high] ∧ NewD H Q (wholeD add low high)
theorem k_whole_deed (D : Df K mg "whole_deed" s_whole_deed ["add", "low", "high"]) : Dn P w K mg base 1 "whole_deed" ["add", "low", "high"] spWholeDeed := by
  refine D.ok fun f fd F => okG0 F sc_whole_deed (fun vs H Q E h => ?_) (fun cdv A outer s H vs Q E hr h => ⟨_, (pss_cons (ps_if (PW.pt (pw_and (pt_cmpR op_notN (pv 1) pe_non (nomark _)) (pw_and1 (pt_cmpR op_eq (pv 1) (pv 2) (nomark _)))))
      (pss_one (ps_ret (pe_tup (pa_cons pe_int (pa_cons (pv 1) (pa_cons (pv 2) pa_nil))))))
      pss_nil)
    (pss_one (ps_ret (pe_tup (pa_cons (pv 0) (pa_cons (pv 1) (pa_cons (pv 2) pa_nil))))))), ?_⟩)
  · obtain ⟨add, low, high, rfl, _⟩ := h; rfl
  · obtain ⟨add, low, high, rfl, q⟩ := h
    have key : ∀ d : Dd, wholeD add low high = d → tRet (tTup (tCons (tC (.int d.add)) (tCons (tC (oV d.low)) (tCons (tC (oV d.high)) tNil)))) { nx := fun _ H' => Q .non H', rt := Q } (start ["add", "low", "high"] [.int add, oV low, oV high]) H := by
      rintro d rfl
      exact ⟨sz, fun p hp => q p _ (same_new hp _) hp upd_same⟩
    cases low with
    | none =>
      refine ⟨_, rfl, rfl, _, rfl, iteF (iteF ?_)⟩
      have := key ⟨add, none, high⟩ (if_neg fun z => z.1 rfl)
      exact ⟨_, rfl, _, rfl, _, rfl, this⟩
    | some l =>
      refine ⟨_, rfl, rfl, _, rfl, iteT ⟨_, rfl, _, rfl, ?_⟩⟩
      cases high with
      | none =>
        have := key ⟨add, some l, none⟩ (if_neg fun z => nomatch z.2)
        exact ⟨rfl, _, rfl, iteF ⟨_, rfl, _, rfl, _, rfl, this⟩⟩
      | some h =>
        refine ⟨rfl, _, rfl, ite2 (fun c => ?_) (fun c => ?_)⟩
        · have c' : l = h := by have := of_decide_eq_true c; cases this; rfl
          have := key ⟨0, some l, some h⟩ (if_pos ⟨Option.some_ne_none l, by rw [c']⟩)
          exact ⟨_, rfl, _, rfl, this⟩
        · have c' : ¬ l = h := fun e => c (decide_eq_true (by rw [e]))
          have := key ⟨add, some l, some h⟩ (if_neg fun z => c' (Option.some.inj z.2))
          exact ⟨_, rfl, _, rfl, _, rfl, this⟩
def spBehind (K : PySem.W.Frag) : Sp := fun vs H Q _ => ∃ (a b : Addr) (d e : Dd), vs = [.ref a, .ref b] ∧ SqT K H a d.vs ∧ SqT K H b e.vs ∧ NewD H Q (beh d e)
theorem k_one_behind (D : Df K mg "one_behind" s_one_behind ["one", "other"]) (D_put_through : Dn P w K mg base 1 "put_through" ["deed", "value"] (spPut K)) (D_whole_deed : Dn P w K mg base 1 "whole_deed" ["add", "low", "high"] spWholeDeed) : Dn P w K mg base 2 "one_behind" ["one", "other"] (spBehind K) := by
  refine D.ok fun f fd F => okG0 F sc_one_behind (fun vs H Q E h => ?_) (fun cdv A outer s H vs Q E hr h => ⟨_, (pss_cons (ps_par (i := 2) (j := 3) rfl sc_one_behind.nd rfl rfl (by decide) rfl rfl (pa_cons (pe_ix (kk (K := K) (F := rIxT) (P := IxR _) ix_tup) (pv 1) pe_int (fun _ _ => rfl)) (pa_cons (pe_ix (kk (K := K) (F := rIxT) (P := IxR _) ix_tup) (pv 1) pe_int (fun _ _ => rfl)) pa_nil)) (by rfl))
    (pss_cons (ps_if (pt_cmpR op_notN (pe_ix (kk (K := K) (F := rIxT) (P := IxR _) ix_tup) (pv 0) pe_int (fun _ _ => rfl)) pe_non (nomark _))
      (pss_one (ps_set (i := 2) sc_one_behind.nd rfl (Or.inl rfl) (pe_cD D_put_through (hr.less (by decide)) rfl (pa_cons (pv 1) (pa_cons (pe_ix (kk (K := K) (F := rIxT) (P := IxR _) ix_tup) (pv 0) pe_int (fun _ _ => rfl)) pa_nil)))))
      pss_nil)
    (pss_cons (ps_if (pt_cmpR op_notN (pe_ix (kk (K := K) (F := rIxT) (P := IxR _) ix_tup) (pv 0) pe_int (fun _ _ => rfl)) pe_non (nomark _))
      (pss_one (ps_set (i := 3) sc_one_behind.nd rfl (Or.inl rfl) (pe_cD D_put_through (hr.less (by decide)) rfl (pa_cons (pv 1) (pa_cons (pe_ix (kk (K := K) (F := rIxT) (P := IxR _) ix_tup) (pv 0) pe_int (fun _ _ => rfl)) pa_nil)))))
      pss_nil)
    (pss_one (ps_ret (pe_cD D_whole_deed (hr.less (by decide)) rfl (pa_cons (pe_op op_add (pe_ix (kk (K := K) (F := rIxT) (P := IxR _) ix_tup) (pv 0) pe_int (fun _ _ => rfl)) (pe_ix (kk (K := K) (F := rIxT) (P := IxR _) ix_tup) (pv 1) pe_int (fun _ _ => rfl))) (pa_cons (pv 2) (pa_cons (pv 3) pa_nil))))))))), ?_⟩)
  · obtain ⟨a, b, d, e, rfl, _⟩ := h; rfl
  · obtain ⟨a, b, d, e, rfl, ha, hb, q⟩ := h
    refine ⟨_, rfl, b, _, _, _, rfl, rfl, hb, at_of (j := 1) rfl rfl, _, rfl, b, _, _, _, rfl, rfl, hb, at_of (j := 2) rfl rfl, _, _, rfl, ?_⟩
    refine ⟨_, rfl, a, _, _, _, rfl, rfl, ha, at_of (j := 1) rfl rfl, rfl, _, rfl, ?_⟩
    have fin : ∀ lo hi : Option Int, endBeh e d.low e.low = lo → endBeh e d.high e.high = hi → tRet (tCall spWholeDeed [] E0 (tCons (tOp (rI0 fun i j => V.int (i + j)) (tOp (rIxT K) (tVar 0) (tC (.int 0))) (tOp (rIxT K) (tVar 1) (tC (.int 0)))) (tCons (tVar 2) (tCons (tVar 3) tNil)))) { nx := fun _ H' => Q .non H', rt := Q }
        [some (.ref a), some (.ref b), some (oV lo), some (oV hi)] H := by
      rintro _ _ rfl rfl
      exact ⟨_, rfl, a, _, _, _, rfl, rfl, ha, at_of (j := 0) rfl rfl, _, rfl, b, _, _, _, rfl, rfl, hb, at_of (j := 0) rfl rfl, _, _, rfl, rfl, _, rfl, _, rfl, _, _, _, rfl, q⟩
    have hi : ∀ lo : Option Int, endBeh e d.low e.low = lo → tSeq (tIfS (tTest (tOp (fun x y H Q => y = V.non ∧ Q (V.bl (!decide (x = V.non))) H) (tOp (rIxT K) (tVar 0) (tC (.int 2))) (tC .non))) (tAsg (tCall (spPut K) [] E0 (tCons (tVar 1) (tCons (tOp (rIxT K) (tVar 0) (tC (.int 2))) tNil))) (gName 3)) tNext)
        (tRet (tCall spWholeDeed [] E0 (tCons (tOp (rI0 fun i j => V.int (i + j)) (tOp (rIxT K) (tVar 0) (tC (.int 0))) (tOp (rIxT K) (tVar 1) (tC (.int 0)))) (tCons (tVar 2) (tCons (tVar 3) tNil))))) { nx := fun _ H' => Q .non H', rt := Q }
        [some (.ref a), some (.ref b), some (oV lo), some (oV e.high)] H := by
      intro lo hlo
      refine ⟨_, rfl, a, _, _, _, rfl, rfl, ha, at_of (j := 2) rfl rfl, rfl, _, rfl, ?_⟩
      cases eh : d.high with
      | none => exact iteF (fin lo e.high hlo (by rw [eh] <;> rfl))
      | some k =>
        refine iteT ⟨_, rfl, _, rfl, a, _, _, _, rfl, rfl, ha, at_of (j := 2) rfl rfl, b, e, k, by rw [eh] <;> rfl, hb, ?_⟩
        exact fin lo (some _) hlo (by rw [eh] <;> rfl)
    cases el : d.low with
    | none => exact iteF (hi e.low (by rw [el] <;> rfl))
    | some k =>
      refine iteT ⟨_, rfl, _, rfl, a, _, _, _, rfl, rfl, ha, at_of (j := 1) rfl rfl, b, e, k, by rw [el] <;> rfl, hb, ?_⟩
      exact hi (some _) (by rw [el] <;> rfl)
def spWantFrom : Sp := fun vs H Q _ => ∃ (i m : Int), vs = [.int i, .int m] ∧ m ≤ i ∧ Q .non H
theorem k_want_from (D : Df K mg "want_from" s_want_from ["thing", "least"]) (D_is_whole : Dn P w K mg base 1 "is_whole" ["thing"] spIsWhole) : Dn P w K mg base 2 "want_from" ["thing", "least"] spWantFrom := by
  refine D.ok fun f fd F => okG0 F sc_want_from (fun vs H Q E h => ?_) (fun cdv A outer s H vs Q E hr h => ⟨_, (pss_one (ps_if (PW.pt (pw_or (pt_not (pt_val (pe_cD D_is_whole (hr.less (by decide)) rfl (pa_cons (pv 0) pa_nil)))) (pw_or1 (pt_cmpR op_lt (pv 0) (pv 1) (nomark _)))))
     (pss_one ps_never)
     pss_nil)), ?_⟩)
  · obtain ⟨i, m, rfl, _⟩ := h; rfl
  · obtain ⟨i, m, rfl, hm, q⟩ := h
    exact ⟨_, rfl, i, rfl, _, rfl, iteF ⟨_, rfl, _, rfl, _, _, rfl, rfl, _, rfl, ifF (decide_eq_false (by omega)) q⟩⟩
def spAgain (K : PySem.W.Frag) : Sp := fun vs H Q _ => ∃ (a : Addr) (d : Dd) (n : Nat), vs = [.ref a, .int n] ∧ DeedArg K H a d ∧ d.add.natAbs < 2 ^ 10000 ∧ n < 2 ^ 10000 ∧ ∀ (r : Addr) H', Same H H' → TupAt K H' r (pw d n).vs → Q (.ref r) H'
theorem k_again (D : Df K mg "again" s_again ["deed", "many"]) (D_want_from : Dn P w K mg base 2 "want_from" ["thing", "least"] spWantFrom) (D_want_deed : Dn P w K mg base 4 "want_deed" ["thing"] (spWantDeed K)) (D_whole_deed : Dn P w K mg base 1 "whole_deed" ["add", "low", "high"] spWholeDeed) : Dn P w K mg base 5 "again" ["deed", "many"] (spAgain K) := by
  refine D.ok fun f fd F => okG0 F sc_again (fun vs H Q E h => ?_) (fun cdv A outer s H vs Q E hr h => ⟨_, (pss_cons (ps_expr (pe_cD D_want_from (hr.less (by decide)) rfl (pa_cons (pv 1) (pa_cons pe_int pa_nil))))
    (pss_cons (ps_expr (pe_cD D_want_deed (hr.less (by decide)) rfl (pa_cons (pv 0) pa_nil)))
    (pss_cons (ps_if (pt_cmpR op_eq (pv 1) pe_int (nomark _))
      (pss_one (ps_ret (pe_glob (v := .ref B.LOOK_.choose) (by rfl) B.LOOK_.choose_spec.1 rfl)))
      pss_nil)
    (pss_cons (ps_asg (pv 0) (kk (K := K) (F := fun K => gTup K 3 _) (P := PG _ _) (pg_tup rfl (pgs_cons (pg_name (i := 2) sc_again.nd rfl (Or.inl rfl)) (pgs_cons (pg_name (i := 3) sc_again.nd rfl (Or.inl rfl)) (pgs_cons (pg_name (i := 4) sc_again.nd rfl (Or.inl rfl)) pgs_nil))))))
    (pss_cons (ps_set (i := 5) sc_again.nd rfl (Or.inl rfl) (pe_op op_mulX (pe_op op_sub (pv 1) pe_int) (pv 2)))
    (C8.pss_cut (ps_if (PW.pt (pw_and (pt_cmpR op_notN (pv 3) pe_non (nomark _)) (pw_and1 (pt_cmpR op_gt (pv 5) pe_int (nomark _)))))
      (pss_one (ps_set (i := 3) sc_again.nd rfl (Or.inl rfl) (pe_ifExp (pt_cmpR op_isN (pv 4) pe_non (nomark _)) (pe_op op_add (pv 3) (pv 5)) (pe_callB (call_min2 rfl) (by rfl) B.min_ (by decide +kernel) (pa_cons (pv 4) (pa_cons (pe_op op_add (pv 3) (pv 5)) pa_nil))))))
      pss_nil)
    (C8.pss_cut (ps_if (PW.pt (pw_and (pt_cmpR op_notN (pv 4) pe_non (nomark _)) (pw_and1 (pt_cmpR op_lt (pv 5) pe_int (nomark _)))))
      (pss_one (ps_set (i := 4) sc_again.nd rfl (Or.inl rfl) (pe_ifExp (pt_cmpR op_isN (pv 3) pe_non (nomark _)) (pe_op op_add (pv 4) (pv 5)) (pe_callB (call_max2 rfl) (by rfl) B.max_ (by decide +kernel) (pa_cons (pv 3) (pa_cons (pe_op op_add (pv 4) (pv 5)) pa_nil))))))
      pss_nil)
    (pss_one (ps_ret (pe_cD D_whole_deed (hr.less (by decide)) rfl (pa_cons (pe_op op_mulX (pv 1) (pv 2)) (pa_cons (pv 3) (pa_cons (pv 4) pa_nil))))))))))))), ?_⟩)
  · obtain ⟨a, d, n, rfl, _⟩ := h; rfl
  · obtain ⟨a, d, n, rfl, ha, hd, hn, q⟩ := h
    refine ⟨_, rfl, _, 0, rfl, by omega, _, rfl, a, d, rfl, ha, _, rfl, rfl, _, rfl, ite2 (fun c => ?_) (fun c => ?_)⟩
    · have c' : n = 0 := by have := V.int.inj (of_decide_eq_true c); omega
      subst c'
      exact q _ H (Same.refl H) (.inr B.LOOK_.choose_spec.2)
    have c' : 0 < n := by
      rcases Nat.eq_zero_or_pos n with e | e
      · exact absurd (by rw [e] <;> rfl) c
      · exact e
    obtain ⟨m, rfl⟩ : ∃ m, n = m + 1 := ⟨n - 1, by omega⟩
    have hfin : agn d (((m + 1 : Nat) : Int)) = pw d (m + 1) := agn_pw ha.2.2 m
    refine ⟨_, rfl, a, _, rfl, ha.2.1, rfl, _, _, rfl, _, _, rfl, _, _, rfl, rfl, ?_⟩
    refine ⟨_, rfl, _, _, rfl, rfl, _, rfl, _, _, rfl, rfl, mulx 10001 10000 (by omega) hd, ?_⟩
    have hfar : ∃ far : Int, far = (((m + 1 : Nat) : Int) - 1) * d.add := ⟨_, rfl⟩
    obtain ⟨far, efar⟩ := hfar
    have eA : agn d (((m + 1 : Nat) : Int)) = wholeD (((m + 1 : Nat) : Int) * d.add) (agL d far) (agH d far) := by rw [efar] <;> rfl
    rw [hfin] at eA
    refine ⟨fun σ H2 => H2 = H ∧ σ = [some (.ref a), some (.int ((m + 1 : Nat) : Int)), some (.int d.add), some (oV (agL d far)), some (oV d.high), some (.int far)], ?_, ?_⟩
    · subst efar
      cases e1 : d.low with
      | none => exact ⟨_, rfl, rfl, _, rfl, iteF (iteF ⟨rfl, by rw [agL_n e1] <;> rfl⟩)⟩
      | some l =>
        refine ⟨_, rfl, rfl, _, rfl, iteT ⟨_, rfl, _, _, rfl, rfl, _, rfl, ite2 (fun c => ?_) (fun c => ?_)⟩⟩
        · have c2 : (((m + 1 : Nat) : Int) - 1) * d.add > 0 := of_decide_eq_true c
          cases e2 : d.high with
          | none => exact ⟨_, rfl, rfl, _, rfl, iteT ⟨_, rfl, _, rfl, _, _, rfl, rfl, rfl, by rw [agL_p e1 e2 c2] <;> rfl⟩⟩
          | some h => exact ⟨_, rfl, rfl, _, rfl, iteF ⟨_, rfl, _, rfl, _, rfl, _, _, rfl, rfl, _, _, rfl, rfl, by rw [agL_q e1 e2 c2] <;> rfl⟩⟩
        · have c2 : ¬ (((m + 1 : Nat) : Int) - 1) * d.add > 0 := of_decide_eq_false (Bool.eq_false_iff.mpr c)
          exact ⟨rfl, by rw [agL_z e1 c2] <;> rfl⟩
    rintro _ H2 ⟨rfl, rfl⟩
    refine ⟨fun σ H3 => H3 = H2 ∧ σ = [some (.ref a), some (.int ((m + 1 : Nat) : Int)), some (.int d.add), some (oV (agL d far)), some (oV (agH d far)), some (.int far)], ?_, ?_⟩
    · cases e2 : d.high with
      | none => exact ⟨_, rfl, rfl, _, rfl, iteF (iteF ⟨rfl, by rw [agH_n e2] <;> rfl⟩)⟩
      | some h =>
        refine ⟨_, rfl, rfl, _, rfl, iteT ⟨_, rfl, _, _, rfl, rfl, _, rfl, ite2 (fun c => ?_) (fun c => ?_)⟩⟩
        · have c2 : far < 0 := of_decide_eq_true c
          cases e1 : d.low with
          | none =>
            rw [agL_n e1, agH_p e2 e1 c2]
            exact ⟨_, rfl, rfl, _, rfl, iteT ⟨_, rfl, _, rfl, _, _, rfl, rfl, rfl, rfl⟩⟩
          | some l =>
            rw [agL_z e1 (show ¬ far > 0 by omega), agH_q e2 e1 c2]
            exact ⟨_, rfl, rfl, _, rfl, iteF ⟨_, rfl, _, rfl, _, rfl, _, _, rfl, rfl, _, _, rfl, rfl, rfl⟩⟩
        · have c2 : ¬ far < 0 := of_decide_eq_false (Bool.eq_false_iff.mpr c)
          exact ⟨rfl, by rw [agH_z e2 c2] <;> rfl⟩
    rintro _ _ ⟨rfl, rfl⟩
    refine ⟨_, rfl, _, rfl, _, _, rfl, rfl, mulx 10001 10000 (by omega) hd, _, rfl, _, rfl, _, _, _, rfl, fun r H4 S4 n4 h4 => q r H4 S4 (.inl ?_)⟩
    rw [h4, eA]
def spStays (K : PySem.W.Frag) : Sp := fun vs H Q _ => ∃ (a : Addr) (d : Dd), vs = [.ref a] ∧ DeedArg K H a d ∧ NewS H Q (staysD d)
theorem k_stays (D : Df K mg "stays" s_stays ["deed"]) (D_want_deed : Dn P w K mg base 4 "want_deed" ["thing"] (spWantDeed K)) : Dn P w K mg base 5 "stays" ["deed"] (spStays K) := by
  refine D.ok fun f fd F => okG0 F sc_stays (fun vs H Q E h => ?_) (fun cdv A outer s H vs Q E hr h => ⟨_, (pss_cons (ps_expr (pe_cD D_want_deed (hr.less (by decide)) rfl (pa_cons (pv 0) pa_nil)))
    (pss_cons (ps_asg (pv 0) (kk (K := K) (F := fun K => gTup K 3 _) (P := PG _ _) (pg_tup rfl (pgs_cons (pg_name (i := 1) sc_stays.nd rfl (Or.inl rfl)) (pgs_cons (pg_name (i := 2) sc_stays.nd rfl (Or.inl rfl)) (pgs_cons (pg_name (i := 3) sc_stays.nd rfl (Or.inl rfl)) pgs_nil))))))
    (pss_cons (ps_if (pt_cmpR op_eq (pv 1) pe_int (nomark _))
      (pss_one (ps_ret (pe_tup (pa_cons (pv 2) (pa_cons (pv 3) pa_nil)))))
      pss_nil)
    (pss_cons (ps_set (i := 4) sc_stays.nd rfl (Or.inl rfl) (pe_ifExp (pt_cmpR op_gt (pv 1) pe_int (nomark _)) (pv 3) (pv 2)))
    (pss_one (ps_ret (pe_ifExp (pt_cmpR op_isN (pv 4) pe_non (nomark _)) pe_non (pe_tup (pa_cons (pv 4) (pa_cons (pv 4) pa_nil)))))))))), ?_⟩)
  · obtain ⟨a, d, rfl, _⟩ := h; rfl
  · obtain ⟨a, d, rfl, ha, q⟩ := h
    refine ⟨_, rfl, a, d, rfl, ha, _, rfl, a, _, rfl, ha.2.1, rfl, _, _, rfl, _, _, rfl, _, _, rfl, rfl, ?_⟩
    refine ⟨_, rfl, rfl, _, rfl, ?_⟩
    unfold staysD at q
    by_cases c : d.add = 0
    · rw [if_pos c] at q
      refine ifT (decide_eq_true (by rw [c])) ⟨_, rfl, _, rfl, sz, fun p hp => q (.ref p) _ (same_new hp _) ⟨p, rfl, upd_same⟩⟩
    · rw [if_neg c] at q
      refine ifF (decide_eq_false (fun z => c (V.int.inj z))) ⟨_, rfl, _, _, rfl, rfl, _, rfl, ?_⟩
      have key : ∀ o : Option Int, NewS H Q (match o with | none => none | some e => some (some e, some e)) → tRet (tIf (tTest (tOp (fun x y H Q => y = V.non ∧ Q (V.bl (decide (x = V.non))) H) (tVar 4) (tC .non))) (tC .non) (tTup (tCons (tVar 4) (tCons (tVar 4) tNil)))) { nx := fun _ H' => Q .non H', rt := Q }
          [some (.ref a), some (.int d.add), some (oV d.low), some (oV d.high), some (oV o)] H := by
        intro o q
        cases o with
        | none => exact ⟨_, rfl, rfl, _, rfl, iteT (q .non H (Same.refl H) rfl)⟩
        | some e => exact ⟨_, rfl, rfl, _, rfl, iteF ⟨_, rfl, _, rfl, sz, fun p hp => q (.ref p) _ (same_new hp _) ⟨p, rfl, upd_same⟩⟩⟩
      by_cases c2 : d.add > 0
      · rw [if_pos c2] at q
        exact ifT (decide_eq_true c2) ⟨_, rfl, key _ q⟩
      · rw [if_neg c2] at q
        exact ifF (decide_eq_false c2) ⟨_, rfl, key _ q⟩
def spBeyond (K : PySem.W.Frag) : Sp := fun vs H Q _ => ∃ (a : Addr) (d : Dd) (g : Int), vs = [.ref a, .int g] ∧ SqT K H a d.vs ∧ Q (.bl (beyond d g)) H
theorem k_is_beyond (D : Df K mg "is_beyond" s_is_beyond ["deed", "value"]) : Dn P w K mg base 1 "is_beyond" ["deed", "value"] (spBeyond K) := by
  refine D.ok fun f fd F => okG0 F sc_is_beyond (fun vs H Q E h => ?_) (fun cdv A outer s H vs Q E hr h => ⟨_, (pss_cons (ps_par (i := 2) (j := 3) rfl sc_is_beyond.nd rfl rfl (by decide) rfl rfl (pa_cons (pe_ix (kk (K := K) (F := rIxT) (P := IxR _) ix_tup) (pv 0) pe_int (fun _ _ => rfl)) (pa_cons (pe_ix (kk (K := K) (F := rIxT) (P := IxR _) ix_tup) (pv 0) pe_int (fun _ _ => rfl)) pa_nil)) (by rfl))
    (pss_one (ps_ret (pe_or (pe_and (pe_cmpR op_notN (pv 2) pe_non (nomark _)) (pe_one (pe_cmpR op_lt (pv 1) (pv 2) (nomark _)))) (pe_one (pe_and (pe_cmpR op_notN (pv 3) pe_non (nomark _)) (pe_one (pe_cmpR op_gt (pv 1) (pv 3) (nomark _))))))))), ?_⟩)
  · obtain ⟨a, d, g, rfl, _⟩ := h; rfl
  · obtain ⟨a, d, g, rfl, hx, q⟩ := h
    refine ⟨_, rfl, a, _, _, _, rfl, rfl, hx, at_of (j := 1) rfl rfl, _, rfl, a, _, _, _, rfl, rfl, hx, at_of (j := 2) rfl rfl, _, _, rfl, ?_⟩
    unfold beyond at q
    obtain ⟨add, low, high⟩ := d
    have hiW : ∀ b : Bool, Q (.bl (b || beyH high g)) H → ∃ c : Bool, V.bl b = .bl c ∧ if c = true then Q (.bl true) H else tAndV (tOp (fun x y H Q => y = V.non ∧ Q (V.bl (!decide (x = V.non))) H) (tVar 3) (tC .non)) (tOp (rI0 fun i j => .bl (decide (j < i))) (tVar 1) (tVar 3))
        [some (.ref a), some (.int g), some (oV low), some (oV high)] H Q := by
      intro b q
      refine ⟨b, rfl, ?_⟩
      cases b with
      | true => exact iteT q
      | false =>
        refine iteF ?_
        cases high with
        | none => exact ⟨_, rfl, rfl, _, rfl, iteF q⟩
        | some h => exact ⟨_, rfl, rfl, _, rfl, iteT ⟨_, rfl, _, rfl, _, _, rfl, rfl, q⟩⟩
    cases low with
    | none => exact ⟨_, rfl, rfl, _, rfl, iteF (hiW false q)⟩
    | some l => exact ⟨_, rfl, rfl, _, rfl, iteT ⟨_, rfl, _, rfl, _, _, rfl, rfl, hiW _ q⟩⟩
def spLeads (K : PySem.W.Frag) : Sp := fun vs H Q _ => ∃ (a : Addr) (d : Dd) (g : Int), vs = [.ref a, .int g] ∧ DeedArg K H a d ∧ NewS H Q (leadsD d g)
theorem k_leads (D : Df K mg "leads" s_leads ["deed", "value"]) (D_want_whole : Dn P w K mg base 2 "want_whole" ["thing"] spWantWhole) (D_want_deed : Dn P w K mg base 4 "want_deed" ["thing"] (spWantDeed K)) (D_is_beyond : Dn P w K mg base 1 "is_beyond" ["deed", "value"] (spBeyond K)) : Dn P w K mg base 5 "leads" ["deed", "value"] (spLeads K) := by
  refine D.ok fun f fd F => okG0 F sc_leads (fun vs H Q E h => ?_) (fun cdv A outer s H vs Q E hr h => ⟨_, (pss_cons (ps_expr (pe_cD D_want_whole (hr.less (by decide)) rfl (pa_cons (pv 1) pa_nil)))
    (pss_cons (ps_expr (pe_cD D_want_deed (hr.less (by decide)) rfl (pa_cons (pv 0) pa_nil)))
    (pss_cons (ps_if (pt_val (pe_cD D_is_beyond (hr.less (by decide)) rfl (pa_cons (pv 0) (pa_cons (pv 1) pa_nil))))
      (pss_one (ps_ret pe_non))
      pss_nil)
    (pss_cons (ps_set (i := 2) sc_leads.nd rfl (Or.inl rfl) (pe_op op_sub (pv 1) (pe_ix (kk (K := K) (F := rIxT) (P := IxR _) ix_tup) (pv 0) pe_int (fun _ _ => rfl))))
    (pss_one (ps_ret (pe_tup (pa_cons (pe_ifExp (pt_cmpR op_eq (pv 1) (pe_ix (kk (K := K) (F := rIxT) (P := IxR _) ix_tup) (pv 0) pe_int (fun _ _ => rfl)) (nomark _)) pe_non (pv 2)) (pa_cons (pe_ifExp (pt_cmpR op_eq (pv 1) (pe_ix (kk (K := K) (F := rIxT) (P := IxR _) ix_tup) (pv 0) pe_int (fun _ _ => rfl)) (nomark _)) pe_non (pv 2)) pa_nil))))))))), ?_⟩)
  · obtain ⟨a, d, g, rfl, _⟩ := h; rfl
  · obtain ⟨a, d, g, rfl, ha, q⟩ := h
    refine ⟨_, rfl, g, rfl, _, rfl, a, d, rfl, ha, _, rfl, _, rfl, a, d, g, rfl, ha.2.1, _, rfl, ?_⟩
    unfold leadsD at q
    by_cases c : beyond d g = true
    · rw [if_pos c] at q
      exact ifT c (q .non H (Same.refl H) rfl)
    · rw [if_neg c] at q
      refine ifF (Bool.eq_false_iff.mpr c) ⟨_, rfl, _, rfl, a, _, _, _, rfl, rfl, ha.2.1, at_of (j := 0) rfl rfl, _, _, rfl, rfl, ?_⟩
      have key : ∀ o : Option Int, decide (V.int g = oV o) = decide (some g = o) := by
        intro o
        cases o with
        | none => rw [decide_eq_false (fun z => nomatch z), decide_eq_false (fun z => nomatch z)]
        | some x =>
          show decide (V.int g = V.int x) = decide (some g = some x)
          by_cases e : g = x
          · rw [e, decide_eq_true rfl, decide_eq_true rfl]
          · rw [decide_eq_false (fun z => e (V.int.inj z)), decide_eq_false (fun z => e (Option.some.inj z))]
      have sc : ∀ o : Option Int, scal (.int g) (oV o) = true := fun o => by cases o <;> rfl
      refine ⟨_, rfl, _, rfl, a, _, _, _, rfl, rfl, ha.2.1, at_of (j := 1) rfl rfl, sc _, _, rfl, ?_⟩
      have fin : ∀ lo : Option Int, lo = (if some g = d.low then none else some (g - d.add)) → tCons (tIf (tTest (tOp rEq (tVar 1) (tOp (rIxT K) (tVar 0) (tC (.int 2))))) (tC .non) (tVar 2)) tNil [some (.ref a), some (.int g), some (.int (g - d.add))] H fun vs H1 => ([oV lo] ++ vs).length ≤ sizeLine ∧ ∀ p, H1 p = none → Q (.ref p) (upd H1 p (.tup ([oV lo] ++ vs))) := by
        rintro _ rfl
        refine ⟨_, rfl, _, rfl, a, _, _, _, rfl, rfl, ha.2.1, at_of (j := 2) rfl rfl, sc _, _, rfl, ?_⟩
        rw [key]
        by_cases c2 : some g = d.high
        · refine ifT (decide_eq_true c2) ⟨sz, fun p hp => q (.ref p) _ (same_new hp _) ⟨p, rfl, ?_⟩⟩
          rw [upd_same, if_pos c2] <;> rfl
        · refine ifF (decide_eq_false c2) ⟨_, rfl, sz, fun p hp => q (.ref p) _ (same_new hp _) ⟨p, rfl, ?_⟩⟩
          rw [upd_same, if_neg c2] <;> rfl
      rw [show decide (V.int g = oV d.low) = decide (some g = d.low) from key _]
      by_cases c1 : some g = d.low
      · exact ifT (decide_eq_true c1) (fin none (by rw [if_pos c1]))
      · exact ifF (decide_eq_false c1) ⟨_, rfl, fin (some (g - d.add)) (by rw [if_neg c1])⟩
def spIsWithin : Sp := fun vs H Q _ => ∃ i a b : Int, vs = [.int i, .int a, .int b] ∧ a ≤ i ∧ i ≤ b ∧ Q (.bl true) H
theorem k_is_within (D : Df K mg "is_within" s_is_within ["thing", "least", "most"]) (D_is_whole : Dn P w K mg base 1 "is_whole" ["thing"] spIsWhole) : Dn P w K mg base 2 "is_within" ["thing", "least", "most"] spIsWithin := by
  refine D.ok fun f fd F => okG0 F sc_is_within (fun vs H Q E h => ?_) (fun cdv A outer s H vs Q E hr h => ⟨_, (pss_one (ps_ret (pe_and (pe_cD D_is_whole (hr.less (by decide)) rfl (pa_cons (pv 0) pa_nil)) (pe_one (pe_chain op_le op_le (pv 1) (pv 0) (pv 2)))))), ?_⟩)
  · obtain ⟨i, a, b, rfl, _⟩ := h; rfl
  · obtain ⟨i, a, b, rfl, h1, h2, q⟩ := h
    refine ⟨_, rfl, i, rfl, _, rfl, iteT ?_⟩
    refine ⟨_, rfl, _, rfl, _, _, rfl, rfl, _, rfl, ifT (decide_eq_true h1) ⟨_, rfl, _, _, rfl, rfl, ?_⟩⟩
    exact (show Q (.bl (decide (i ≤ b))) H by rw [decide_eq_true h2]; exact q)
def spWantWithin : Sp := fun vs H Q _ => ∃ i a b : Int, vs = [.int i, .int a, .int b] ∧ a ≤ i ∧ i ≤ b ∧ Q .non H
theorem k_want_within (D : Df K mg "want_within" s_want_within ["thing", "least", "most"]) (D_is_within : Dn P w K mg base 2 "is_within" ["thing", "least", "most"] spIsWithin) : Dn P w K mg base 3 "want_within" ["thing", "least", "most"] spWantWithin := by
  refine D.ok fun f fd F => okG0 F sc_want_within (fun vs H Q E h => ?_) (fun cdv A outer s H vs Q E hr h => ⟨_, (pss_one (ps_if (pt_not (pt_val (pe_cD D_is_within (hr.less (by decide)) rfl (pa_cons (pv 0) (pa_cons (pv 1) (pa_cons (pv 2) pa_nil))))))
     (pss_one ps_never)
     pss_nil)), ?_⟩)
  · obtain ⟨i, a, b, rfl, _⟩ := h; rfl
  · obtain ⟨i, a, b, rfl, h1, h2, q⟩ := h
    exact ⟨_, rfl, _, rfl, _, rfl, i, a, b, rfl, h1, h2, _, rfl, iteF q⟩
def spWantMany : Sp := fun vs H Q _ => ∃ i : Int, vs = [.int i] ∧ 1 ≤ i ∧ i ≤ 40 ∧ Q .non H
theorem k_want_many (D : Df K mg "want_many" s_want_many ["many"]) (D_want_within : Dn P w K mg base 3 "want_within" ["thing", "least", "most"] spWantWithin) : Dn P w K mg base 4 "want_many" ["many"] spWantMany := by
  refine D.ok fun f fd F => okG0 F sc_want_many (fun vs H Q E h => ?_) (fun cdv A outer s H vs Q E hr h => ⟨_, (pss_one (ps_expr (pe_cD D_want_within (hr.less (by decide)) rfl (pa_cons (pv 0) (pa_cons pe_int (pa_cons (pe_glob (v := .int (40)) (u := .int (40) B.MOST_DEEDS_.choose) (by rfl) B.MOST_DEEDS_.choose_spec ⟨_, rfl⟩) pa_nil)))))), ?_⟩)
  · obtain ⟨i, rfl, _⟩ := h; rfl
  · obtain ⟨i, rfl, h1, h2, q⟩ := h
    exact ⟨_, rfl, i, 1, 40, rfl, h1, h2, q⟩
def spChained : Sp := fun vs H Q _ => ∃ m : Nat, vs = [.int m] ∧ 1 ≤ m ∧ m ≤ 40 ∧ ∀ v H', Same H H' → TrAt H' v (ch (m - 1)) → Q v H'
theorem k_chained (D : Df K mg "chained" s_chained ["many"]) (D_want_many : Dn P w K mg base 4 "want_many" ["many"] spWantMany) : Dn P w K mg base 5 "chained" ["many"] spChained := by
  refine D.ok fun f fd F => okG0 F sc_chained (fun vs H Q E h => ?_) (fun cdv A outer s H vs Q E hr h => ⟨_, (pss_cons (ps_expr (pe_cD D_want_many (hr.less (by decide)) rfl (pa_cons (pv 0) pa_nil)))
    (pss_cons (ps_set (i := 1) sc_chained.nd rfl (Or.inl rfl) pe_int)
    (pss_cons (ps_for PassesOwn.never rfl (pi_range2 (by rfl) B.range_ (pa_cons pe_int (pa_cons (pv 0) pa_nil))) (pg_name (i := 2) sc_chained.nd rfl (Or.inl rfl))
      (pss_one (ps_set (i := 1) sc_chained.nd rfl (Or.inl rfl) (pe_tup (pa_cons (pv 1) (pa_cons (pv 2) pa_nil))))))
    (pss_one (ps_ret (pv 1)))))), ?_⟩)
  · obtain ⟨m, rfl, _⟩ := h; rfl
  · obtain ⟨m, rfl, h1, h2, q⟩ := h
    refine ⟨_, rfl, m, rfl, by omega, by omega, ?_⟩
    refine ⟨_, rfl, _, _, rfl, ⟨by decide, by decide, by omega, by omega⟩, ?_⟩
    have e : ((m : Int) - 1).toNat = m - 1 := by omega
    rw [e]
    refine for_range (lo := 1) (n := m - 1) (fun i σ H1 => ∃ (v : V) (w : Option V), σ = [some (.int m), some v, w] ∧ Same H H1 ∧ TrAt H1 v (ch i)) ⟨_, none, rfl, Same.refl H, rfl⟩ ?_ ?_
    · rintro i σ H1 hi ⟨v, w, rfl, S1, t1⟩
      refine ⟨_, rfl, _, rfl, sz, fun a ha => ?_⟩
      have S2 := same_new ha (.tup [v, .int (1 + (i : Int))])
      exact ⟨_, _, rfl, S1.trans S2, a, v, _, rfl, upd_same, t1.same S2, congrArg V.int (by omega)⟩
    · rintro σ H1 ⟨v, w, rfl, S1, t1⟩
      exact ⟨_, rfl, q _ _ S1 t1⟩
def spIsTree : Sp := fun vs H Q _ => ∃ (v : V) (t : Tr) (m : Nat), vs = [v, .int m] ∧ TrAt H v t ∧ IsRow t 0 ∧ t.cnt = m ∧ m ≤ 40 ∧ ∀ H', Same H H' → Q (.bl true) H'
theorem k_is_tree (D : Df K mg "is_tree" s_is_tree ["thing", "many"]) (D_want_many : Dn P w K mg base 4 "want_many" ["many"] spWantMany) (D_is_whole : Dn P w K mg base 1 "is_whole" ["thing"] spIsWhole) : Dn P w K mg base 5 "is_tree" ["thing", "many"] spIsTree := by
  refine D.ok fun f fd F => okG0 F sc_is_tree (fun vs H Q E h => ?_) (fun cdv A outer s H vs Q E hr h => ⟨_, (pss_cons (ps_expr (pe_cD D_want_many (hr.less (by decide)) rfl (pa_cons (pv 1) pa_nil)))
    (pss_cons (ps_set (i := 2) sc_is_tree.nd rfl (Or.inl rfl) (pe_lst (pa_cons (pv 0) pa_nil)))
    (pss_cons (ps_set (i := 3) sc_is_tree.nd rfl (Or.inl rfl) pe_int)
    (pss_cons (ps_while PassesOwn.never (pt_cmpR (kk (K := K) (F := rNeD) (P := OpR _ _) (op_neD hr.units)) (pv 2) (pe_lst pa_nil) (nomark _))
      (pss_cons (ps_set (i := 4) sc_is_tree.nd rfl (Or.inl rfl) (kk (K := K) (F := fun K => tBM0 K "list" _ _) (P := PE _ _) (pe_bm0 PySem.F.plainAttrs_list PySem.F.slot_list_pop PySem.F.type_list_pop mt_pop (pv 2))))
      (pss_one (ps_if (pt_val (pe_callB (kk (K := K) (F := rIsi) (P := CallR _ _) call_isi) (by rfl) B.isinstance_ (by decide +kernel) (pa_cons (pv 4) (pa_cons (pe_bltn (v := .ty "tuple") (u := .type "tuple") (by rfl) B.tuple_ (by decide +kernel) rfl) pa_nil))))
       (pss_cons (ps_if (pt_cmpR op_ne (pe_callB (lenK (K := K)) (by rfl) B.len_ (by decide +kernel) (pa_cons (pv 4) pa_nil)) pe_int (nomark _))
         (pss_one (ps_ret pe_bl))
         pss_nil)
       (pss_one (ps_expr (kk (K := K) (F := fun K => tBM K "list" _ _ _) (P := PE _ _) (pe_bm PySem.F.plainAttrs_list PySem.F.slot_list_extend PySem.F.type_list_extend mt_extend (pv 2) (pa_cons (pe_lst (pa_cons (pe_ix (kk (K := K) (F := rIxT) (P := IxR _) ix_tup) (pv 4) pe_int (fun _ _ => rfl)) (pa_cons (pe_ix (kk (K := K) (F := rIxT) (P := IxR _) ix_tup) (pv 4) pe_int (fun _ _ => rfl)) pa_nil))) pa_nil))))))
       (pss_one (ps_if (PW.pt (pw_or (pt_not (pt_val (pe_cD D_is_whole (hr.less (by decide)) rfl (pa_cons (pv 4) pa_nil)))) (pw_or1 (pt_cmpR op_ne (pv 4) (pv 3) (nomark _)))))
        (pss_one (ps_ret pe_bl))
        (pss_one (ps_set (i := 3) sc_is_tree.nd rfl (Or.inl rfl) (pe_op op_add (pv 3) pe_int)))))))))
    (pss_one (ps_ret (pe_cmpR op_eq (pv 3) (pv 1) (nomark _)))))))), ?_⟩)
  · obtain ⟨v, t, m, rfl, _⟩ := h; rfl
  · obtain ⟨v, t, m, rfl, ht, hr, hc, h40, q⟩ := h
    have := t.cnt_pos
    refine ⟨_, rfl, m, rfl, by omega, by omega, _, rfl, sz, fun L hL => ?_⟩
    refine ⟨fun k σ H2 => ∃ (ts : List (V × Tr)) (c : Nat) (v4 : Option V), σ = [some v, some (.int m), some (.ref L), some (.int c), v4] ∧ Same H H2 ∧ H2 L = some (.lst (ts.reverse.map fun x => x.1)) ∧ (∀ x ∈ ts, TrAt H x.1 x.2 ∧ x.2.h ≤ 40 ∧ x.2.big ≤ 100) ∧ Rows (ts.map fun x => x.2) c m ∧ k = szs (ts.map fun x => x.2),
      ⟨_, [(v, t)], 0, none, rfl, same_new hL _, upd_same, fun x hx => ?_, ⟨hr, by rw [hc]; exact Nat.zero_add _⟩, rfl⟩, ?_⟩
    · cases List.mem_singleton.mp hx
      exact ⟨ht, Nat.le_trans t.h_cnt (by omega), Nat.le_trans hr.big (by omega)⟩
    rintro k σ H2 ⟨ts, c, v4, rfl, S2, hL2, hts, hrows, rfl⟩
    have hlen := rows_len hrows
    rw [List.length_map] at hlen
    refine ⟨_, rfl, sz, fun e he => ⟨.list (ts.reverse.map fun x => x.2.d), .list [], .lst (SqL.of ((same_new he _) _ _ hL2)) (dps fun x hx => ((hts x (List.mem_reverse.mp hx)).1.same (S2.trans (same_new he _))).dp), .lst (SqL.of upd_same) .nil, ?_, rfl, _, rfl, ?_⟩⟩
    · unfold SeqAt.shaped
      have h1 : PyData.depthAll (ts.reverse.map fun x => x.2.d) ≤ 50 := by
        exact depths fun x hx => (hts x (List.mem_reverse.mp hx)).2
      have h2 : PyData.canLayAll0 (ts.reverse.map fun x => x.2.d) = true := lays
      simp only [PyData.canLay0, h2, PyData.depth, Bool.true_and]
      exact decide_eq_true (by omega)
    rw [eqv_nil]
    cases ts with
    | nil =>
      cases (show c = m from hrows)
      refine iteF ⟨_, rfl, _, rfl, rfl, ?_⟩
      rw [dec_self]
      exact q _ (S2.trans (same_new he _))
    | cons x r =>
      obtain ⟨hx, hr2⟩ := hrows
      have hne : ((r.reverse ++ [x]).map fun x => x.2.d).isEmpty = false := by rw [List.map_append]; cases (r.reverse.map fun x : V × Tr => x.2.d) <;> rfl
      rw [List.reverse_cons] at hL2 ⊢
      rw [hne]
      refine ifT rfl ⟨fun σ' H' => ∃ m', m' < szs ((x :: r).map fun x => x.2) ∧ ∃ (ts : List (V × Tr)) (c : Nat) (v4 : Option V), σ' = [some v, some (.int m), some (.ref L), some (.int c), v4] ∧ Same H H' ∧ H' L = some (.lst (ts.reverse.map fun x => x.1)) ∧ (∀ x ∈ ts, TrAt H x.1 x.2 ∧ x.2.h ≤ 40 ∧ x.2.big ≤ 100) ∧ Rows (ts.map fun x => x.2) c m ∧ m' = szs (ts.map fun x => x.2), fun σ' H' h => h, ?_⟩
      have S3 := S2.trans (same_new he (.lst []))
      have nLe : L ≠ e := ne_of_none hL2 he
      refine ⟨_, rfl, .inl ⟨rfl, _, SqL.of (by rw [upd_ne nLe]; exact hL2)⟩, L, _, x.1, rfl, rfl, (by rw [upd_ne nLe]; exact hL2), by simp, ?_⟩
      have hdl : (List.map (fun x : V × Tr => x.1) (r.reverse ++ [x])).dropLast = r.reverse.map fun x => x.1 := by rw [List.map_append]; exact List.dropLast_concat
      rw [hdl]
      have hr0 : ∀ y ∈ r, TrAt H y.1 y.2 ∧ y.2.h ≤ 40 ∧ y.2.big ≤ 100 := fun y hy => hts y (List.mem_cons_of_mem _ hy)
      obtain ⟨hx0, hh, hb⟩ := hts x List.mem_cons_self
      obtain ⟨xv, xt⟩ := x
      generalize eH : upd (upd H2 e (.lst [])) L (.lst (r.reverse.map fun x => x.1)) = H3
      have S4 : Same H H3 := by rw [← eH]; exact fun a o ha => by rw [upd_ne (ne_of_none ha hL)]; exact S3 _ _ ha
      have hL3 : H3 L = some (.lst (r.reverse.map fun x => x.1)) := by rw [← eH]; exact upd_same
      cases xt with
      | leaf n =>
        cases (show xv = V.int n from hx0)
        have e : n = c := hx
        subst e
        refine ⟨_, rfl, _, _, _, _, _, rfl, .ty _, .base (.int _), kit_ty (b := "tuple") (r := false) (by decide +kernel), _, rfl, iteF ?_⟩
        refine ⟨_, rfl, _, rfl, _, rfl, iteF ⟨_, rfl, _, rfl, rfl, _, rfl, ifF (dec_ne rfl) ⟨_, rfl, _, _, rfl, rfl, ?_⟩⟩⟩
        exact ⟨_, (by show szs (r.map fun x => x.2) < 1 + szs (r.map fun x => x.2); omega), r, n + 1, _, rfl, S4, hL3, hr0, hr2, rfl⟩
      | node l rr =>
        obtain ⟨a, x1, y1, hxv, ha, hx1, hy1⟩ := hx0
        cases (show xv = V.ref a from hxv)
        have hh' : max l.h rr.h + 1 ≤ 40 := hh
        have hb' : max l.big rr.big ≤ 100 := hb
        refine ⟨_, rfl, _, _, _, _, _, rfl, .ty _, .base (.tup (S4 _ _ ha)), kit_ty (b := "tuple") (r := true) (by decide +kernel), _, rfl, iteT ?_⟩
        refine ⟨_, rfl, a, _, rfl, .inr (SqT.of (S4 _ _ ha)), rfl, _, rfl, iteF ?_⟩
        refine ⟨_, rfl, .inl ⟨rfl, _, SqL.of hL3⟩, _, rfl, a, _, _, _, rfl, rfl, SqT.of (S4 _ _ ha), at_of (j := 1) rfl rfl, _, rfl, a, _, _, _, rfl, rfl, SqT.of (S4 _ _ ha), at_of (j := 0) rfl rfl, sz, fun b hb => ?_⟩
        have nLb : L ≠ b := ne_of_none hL3 hb
        refine ⟨L, b, _, _, rfl, rfl, by rw [upd_ne nLb]; exact hL3, upd_same, small (by rw [List.length_map, List.length_reverse]; have : r.length + 1 + c ≤ m := hlen; show r.length + 2 ≤ 1000; omega), ?_⟩
        refine ⟨_, ?_, (x1, l) :: (y1, rr) :: r, c, _, rfl, ?_, ?_, ?_, ?_, rfl⟩
        · show l.sz + (rr.sz + szs _) < (l.sz + rr.sz + 1) + szs _
          omega
        · exact fun a o h => by rw [upd_ne (ne_of_none h hL)]; exact (S4.trans (same_new hb _)) _ _ h
        · rw [upd_same, List.reverse_cons, List.reverse_cons, List.append_assoc, List.map_append] <;> rfl
        · intro z hz
          rcases List.mem_cons.mp hz with rfl | hz
          · exact ⟨hx1, by show l.h ≤ 40; omega, by show l.big ≤ 100; omega⟩
          rcases List.mem_cons.mp hz with rfl | hz
          · exact ⟨hy1, by show rr.h ≤ 40; omega, by show rr.big ≤ 100; omega⟩
          · exact hr0 z hz
        · obtain ⟨g1, g2⟩ := hx
          exact ⟨g1, g2, by show Rows _ (c + l.cnt + rr.cnt) m; rw [Nat.add_assoc]; exact hr2⟩
def spWantTree : Sp := fun vs H Q _ => ∃ (v : V) (t : Tr) (m : Nat), vs = [v, .int m] ∧ TrAt H v t ∧ IsRow t 0 ∧ t.cnt = m ∧ m ≤ 40 ∧ ∀ H', Same H H' → Q .non H'
theorem k_want_tree (D : Df K mg "want_tree" s_want_tree ["tree", "many"]) (D_is_tree : Dn P w K mg base 5 "is_tree" ["thing", "many"] spIsTree) : Dn P w K mg base 6 "want_tree" ["tree", "many"] spWantTree := by
  refine D.ok fun f fd F => okG0 F sc_want_tree (fun vs H Q E h => ?_) (fun cdv A outer s H vs Q E hr h => ⟨_, (pss_one (ps_if (pt_not (pt_val (pe_cD D_is_tree (hr.less (by decide)) rfl (pa_cons (pv 0) (pa_cons (pv 1) pa_nil)))))
     (pss_one ps_never)
     pss_nil)), ?_⟩)
  · obtain ⟨v, t, m, rfl, _⟩ := h; rfl
  · obtain ⟨v, t, m, rfl, h1, h2, h3, h4, q⟩ := h
    exact ⟨_, rfl, _, rfl, v, t, m, rfl, h1, h2, h3, h4, fun H' S => ⟨_, rfl, iteF (q _ S)⟩⟩
def spWantDeeds (K : PySem.W.Frag) : Sp := fun vs H Q _ => ∃ (k : Addr) (ps : List (Addr × Dd)), vs = [.ref k] ∧ DsAt H k ps ∧ ∀ H', Same H H' → Q .non H'
theorem k_want_deeds (D : Df K mg "want_deeds" s_want_deeds ["deeds"]) (D_is_deed : Dn P w K mg base 3 "is_deed" ["thing"] (spIsDeed K)) : Dn P w K mg base 4 "want_deeds" ["deeds"] (spWantDeeds K) := by
  refine D.ok fun f fd F => okG0 F sc_want_deeds (fun vs H Q E h => ?_) (fun cdv A outer s H vs Q E hr h => ⟨_, (pss_one (ps_if (PW.pt (pw_or (pt_not (pt_val (pe_callB (kk (K := K) (F := rIsi) (P := CallR _ _) call_isi) (by rfl) B.isinstance_ (by decide +kernel) (pa_cons (pv 0) (pa_cons (pe_bltn (v := .ty "tuple") (u := .type "tuple") (by rfl) B.tuple_ (by decide +kernel) rfl) pa_nil))))) (pw_or (pt_not (pt_chain op_le op_le pe_int (pe_callB (lenK (K := K)) (by rfl) B.len_ (by decide +kernel) (pa_cons (pv 0) pa_nil)) (pe_glob (v := .int (40)) (u := .int (40) B.MOST_DEEDS_.choose) (by rfl) B.MOST_DEEDS_.choose_spec ⟨_, rfl⟩))) (pw_or1 (pt_not (pt_val (pe_callB (kk (K := K) (F := rAll) (P := CallR _ _) (cr_all rfl)) (by rfl) B.all_ (by decide +kernel) (pa_cons (pe_lc (own := [("one", 1)]) (g := gName 1) (tt := tYes) rfl sc_want_deeds.nd (kk (K := K) (F := fun K => iTup K _) (P := PI _ _ _) (pi_tup (pv 0))) (blkOk_by (own := [("one", 1)]) (N := ["deeds", "one"]) (sc := defScope s_want_deeds) (by decide +kernel)) (fun _ _ _ _ _ => (pg_name (i := 1) sc_want_deeds.nd rfl (Or.inl rfl))) (fun _ _ _ _ _ => pts_nil) (fun _ _ _ _ _ => (pe_cD D_is_deed (hr.less (by decide)) rfl (pa_cons (pv 1) pa_nil)))) pa_nil))))))))
     (pss_one ps_never)
     pss_nil)), ?_⟩)
  · obtain ⟨k, ps, rfl, _⟩ := h; rfl
  · obtain ⟨k, ps, rfl, hk, q⟩ := h
    obtain ⟨h1, h2, h3, h4⟩ := hk
    refine ⟨_, rfl, _, _, _, _, _, rfl, .ty _, .base (.tup h1), kit_ty (b := "tuple") (r := true) (by decide +kernel), _, rfl, iteF ?_⟩
    refine ⟨_, rfl, k, _, rfl, .inr (SqT.of h1), ?_⟩
    refine ⟨_, _, rfl, rfl, _, rfl, ifT (decide_eq_true (by rw [List.length_map]; omega)) ⟨_, _, rfl, rfl, _, rfl, ifF (by rw [List.length_map, decide_eq_true (by omega)] <;> rfl) ?_⟩⟩
    refine ⟨_, rfl, k, rfl, ⟨_, SqT.of h1⟩, fun D hD => ?_⟩
    refine lc_tup (K := K) (a := k) (xs := ps.map fun x => .ref x.1) (fun i H2 => Same H H2 ∧ H2 D = some (.lst ((List.replicate i true).map V.bl))) ⟨same_new hD _, upd_same⟩ (fun i H2 _ h => SqT.of (h.1 _ _ h1)) ?_ ?_
    · rintro i y H2 hi ⟨S2, hD2⟩
      rw [List.getElem?_map] at hi
      obtain ⟨x, hx, rfl⟩ := Option.map_eq_some_iff.mp hi
      have hi2 : i < ps.length := (List.getElem?_eq_some_iff.mp hx).1
      refine ⟨rfl, ?_⟩
      exact ⟨_, rfl, x.1, x.2, rfl, ((h4 x (List.mem_of_getElem? hx)).same S2).arg, _, hD2, by rw [rep_len]; exact small1000 (by omega), but_same hD S2 But.upd, by rw [upd_same, rep_snoc]⟩
    · rintro H2 ⟨S2, hD2⟩
      refine ⟨D, _, rfl, SqL.of hD2, _, rfl, ifF (by rw [rep_all] <;> rfl) (q _ S2)⟩
def spFolded (K : PySem.W.Frag) (n : Nat) : Sp := fun vs H Q _ => ∃ (k : Addr) (ps : List (Addr × Dd)) (v : V) (t : Tr) (f : Nat), vs = [.ref k, v] ∧ DsAt H k ps ∧ TrAt H v t ∧ IsRow t f ∧ f + t.cnt ≤ ps.length ∧ t.h ≤ n ∧ ∀ a H', Same H H' → H' a = some (.tup (FT (dsOf ps) t).vs) → Q (.ref a) H'
theorem folded_of_z (vs : List V) (H : Hp) (Q : VK) (E : XK) : ¬ spFolded K 0 vs H Q E := by
  rintro ⟨k, ps, v, t, f, _, _, _, _, _, h2, _⟩
  have := t.h_pos
  omega
theorem k_folded_of_rec (D : Df K mg "folded_of" s_folded_of ["deeds", "tree"]) (D_one_behind : Dn P w K mg base 2 "one_behind" ["one", "other"] (spBehind K)) : ∀ n : Nat, Dn P w K mg base (2 + n) "folded_of" ["deeds", "tree"] ((spFolded K) n) := by
  intro n
  induction n with
  | zero => exact D.ok fun f fd F => ⟨fun vs H Q E h => (folded_of_z B vs H Q E h).elim, fun _ _ _ _ h => (folded_of_z B _ _ _ _ h).elim⟩
  | succ n D_folded_of =>
    refine D.ok fun f fd F => okG0 (k := 2 + n) F sc_folded_of (fun vs H Q E h => ?_) (fun cdv A outer s H vs Q E hr h => ⟨_, (pss_cons (ps_if (pt_not (pt_val (pe_callB (kk (K := K) (F := rIsi) (P := CallR _ _) call_isi) (by rfl) B.isinstance_ (by decide +kernel) (pa_cons (pv 1) (pa_cons (pe_bltn (v := .ty "tuple") (u := .type "tuple") (by rfl) B.tuple_ (by decide +kernel) rfl) pa_nil)))))
      (pss_one (ps_ret (pe_ix (kk (K := K) (F := rIxT) (P := IxR _) ix_tup) (pv 0) (pv 1) (fun _ _ => rfl))))
      pss_nil)
    (pss_one (ps_ret (pe_cD D_one_behind (hr.less (by omega)) rfl (pa_cons (pe_cD D_folded_of (hr.less (by omega)) rfl (pa_cons (pv 0) (pa_cons (pe_ix (kk (K := K) (F := rIxT) (P := IxR _) ix_tup) (pv 1) pe_int (fun _ _ => rfl)) pa_nil))) (pa_cons (pe_cD D_folded_of (hr.less (by omega)) rfl (pa_cons (pv 0) (pa_cons (pe_ix (kk (K := K) (F := rIxT) (P := IxR _) ix_tup) (pv 1) pe_int (fun _ _ => rfl)) pa_nil))) pa_nil)))))), ?_⟩)
    · obtain ⟨k, ps, v, t, f, rfl, _⟩ := h; rfl
    · obtain ⟨k, ps, v, t, f, rfl, hk, ht, hr, hl, hn, q⟩ := h
      cases t with
      | leaf m =>
        cases (show v = V.int m from ht)
        have e : m = f := hr
        subst e
        have hl' : m < ps.length := hl
        refine ⟨_, rfl, _, _, _, _, _, rfl, .ty _, .base (.int _), kit_ty (b := "tuple") (r := false) (by decide +kernel), _, rfl, iteT ?_⟩
        refine ⟨_, rfl, _, rfl, k, _, _, _, rfl, rfl, SqT.of hk.1, at_of (j := m) rfl (by rw [List.getElem?_map, List.getElem?_eq_getElem hl'] <;> rfl), ?_⟩
        refine q _ _ (Same.refl _) ?_
        show H ps[m].1 = some (.tup ((dsOf ps).getD m look).vs)
        rw [show (dsOf ps).getD m look = ps[m].2 by unfold dsOf; rw [List.getD_eq_getElem?_getD, List.getElem?_map, List.getElem?_eq_getElem hl'] <;> rfl]
        exact (hk.2.2.2 ps[m] (List.getElem_mem hl')).1
      | node l r =>
        obtain ⟨a, x, y, hv, ha, hx, hy⟩ := ht
        cases (show v = V.ref a from hv)
        obtain ⟨i1, i2⟩ := hr
        have hn' : max l.h r.h + 1 ≤ n + 1 := hn
        have hl' : f + (l.cnt + r.cnt) ≤ ps.length := hl
        refine ⟨_, rfl, _, _, _, _, _, rfl, .ty _, .base (.tup ha), kit_ty (b := "tuple") (r := true) (by decide +kernel), _, rfl, iteF ?_⟩
        refine ⟨_, rfl, _, rfl, a, _, _, _, rfl, rfl, SqT.of ha, at_of (j := 0) rfl rfl, k, ps, x, l, f, rfl, hk, hx, i1, by omega, by omega, fun b1 H1 S1 hb1 => ?_⟩
        refine ⟨_, rfl, _, rfl, a, _, _, _, rfl, rfl, SqT.of (S1 _ _ ha), at_of (j := 1) rfl rfl, k, ps, y, r, f + l.cnt, rfl, hk.same S1, hy.same S1, i2, by omega, by omega, fun b2 H2 S2 hb2 => ?_⟩
        refine ⟨b1, b2, _, _, rfl, SqT.of (S2 _ _ hb1), SqT.of hb2, fun c H3 S3 _ hc => q _ _ (S1.trans (S2.trans S3)) hc⟩
theorem k_folded_of (D : Df K mg "folded_of" s_folded_of ["deeds", "tree"]) (D_one_behind : Dn P w K mg base 2 "one_behind" ["one", "other"] (spBehind K)) : Dn P w K mg base 42 "folded_of" ["deeds", "tree"] ((spFolded K) 40) := k_folded_of_rec B D D_one_behind 40
def spFold (K : PySem.W.Frag) : Sp := fun vs H Q _ => ∃ (k : Addr) (ps : List (Addr × Dd)) (v : V) (t : Tr), vs = [.ref k, v] ∧ DsAt H k ps ∧ TrAt H v t ∧ IsRow t 0 ∧ t.cnt = ps.length ∧ ∀ a H', Same H H' → H' a = some (.tup (behs (dsOf ps)).vs) → Q (.ref a) H'
theorem k_folded (D : Df K mg "folded" s_folded ["deeds", "tree"]) (D_want_deeds : Dn P w K mg base 4 "want_deeds" ["deeds"] (spWantDeeds K)) (D_want_tree : Dn P w K mg base 6 "want_tree" ["tree", "many"] spWantTree) (D_folded_of : Dn P w K mg base 42 "folded_of" ["deeds", "tree"] ((spFolded K) 40)) : Dn P w K mg base 45 "folded" ["deeds", "tree"] (spFold K) := by
  refine D.ok fun f fd F => okG0 F sc_folded (fun vs H Q E h => ?_) (fun cdv A outer s H vs Q E hr h => ⟨_, (pss_cons (ps_expr (pe_cD D_want_deeds (hr.less (by decide)) rfl (pa_cons (pv 0) pa_nil)))
    (pss_cons (ps_expr (pe_cD D_want_tree (hr.less (by decide)) rfl (pa_cons (pv 1) (pa_cons (pe_callB (lenK (K := K)) (by rfl) B.len_ (by decide +kernel) (pa_cons (pv 0) pa_nil)) pa_nil))))
    (pss_one (ps_ret (pe_cD D_folded_of (hr.less (by decide)) rfl (pa_cons (pv 0) (pa_cons (pv 1) pa_nil))))))), ?_⟩)
  · obtain ⟨k, ps, v, t, rfl, _⟩ := h; rfl
  · obtain ⟨k, ps, v, t, rfl, hk, ht, hr, hc, q⟩ := h
    have hk0 := hk.2
    refine ⟨_, rfl, k, ps, rfl, hk, fun H1 S1 => ?_⟩
    refine ⟨_, rfl, _, rfl, k, _, rfl, .inr (SqT.of (hk.same S1).1), v, t, ps.length, by rw [List.length_map] <;> rfl, ht.same S1, hr, hc, by omega, fun H2 S2 => ?_⟩
    have S12 := S1.trans S2
    refine ⟨_, rfl, _, rfl, k, ps, v, t, 0, rfl, hk.same S12, ht.same S12, hr, by omega, Nat.le_trans t.h_cnt (by omega), fun a H3 S3 ha => ?_⟩
    rw [FT_all hk.oks hr (by rw [hc]; exact (List.length_map _).symm)] at ha
    exact q a _ (S12.trans S3) ha
def spShared (K : PySem.W.Frag) (n : Nat) : Sp := fun vs H Q _ => ∃ (k : Addr) (ps : List (Addr × Dd)) (v : V) (t : Tr) (f : Nat) (x : Int), vs = [.ref k, v, .int x] ∧ DsAt H k ps ∧ TrAt H v t ∧ IsRow t f ∧ f + t.cnt ≤ ps.length ∧ t.h ≤ n ∧ ∀ r l a H', Same H H' → H' r = some (.tup [.ref l, .ref a]) → H' l = some (.lst ((ST (dsOf ps) t x).map V.int)) → H' a = some (.tup (FT (dsOf ps) t).vs) → Q (.ref r) H'
theorem shared_of_z (vs : List V) (H : Hp) (Q : VK) (E : XK) : ¬ spShared K 0 vs H Q E := by
  rintro ⟨k, ps, v, t, f, x, _, _, _, _, _, h2, _⟩
  have := t.h_pos
  omega
theorem k_shared_of_rec (D : Df K mg "shared_of" s_shared_of ["deeds", "tree", "value"]) (D_put_through : Dn P w K mg base 1 "put_through" ["deed", "value"] (spPut K)) (D_one_behind : Dn P w K mg base 2 "one_behind" ["one", "other"] (spBehind K)) : ∀ n : Nat, Dn P w K mg base (2 + n) "shared_of" ["deeds", "tree", "value"] ((spShared K) n) := by
  intro n
  induction n with
  | zero => exact D.ok fun f fd F => ⟨fun vs H Q E h => (shared_of_z B vs H Q E h).elim, fun _ _ _ _ h => (shared_of_z B _ _ _ _ h).elim⟩
  | succ n D_shared_of =>
    refine D.ok fun f fd F => okG0 (k := 2 + n) F sc_shared_of (fun vs H Q E h => ?_) (fun cdv A outer s H vs Q E hr h => ⟨_, (pss_cons (ps_if (pt_not (pt_val (pe_callB (kk (K := K) (F := rIsi) (P := CallR _ _) call_isi) (by rfl) B.isinstance_ (by decide +kernel) (pa_cons (pv 1) (pa_cons (pe_bltn (v := .ty "tuple") (u := .type "tuple") (by rfl) B.tuple_ (by decide +kernel) rfl) pa_nil)))))
      (pss_one (ps_ret (pe_tup (pa_cons (pe_lst (pa_cons (pv 2) pa_nil)) (pa_cons (pe_ix (kk (K := K) (F := rIxT) (P := IxR _) ix_tup) (pv 0) (pv 1) (fun _ _ => rfl)) pa_nil)))))
      pss_nil)
    (pss_cons (ps_asg (pe_cD D_shared_of (hr.less (by omega)) rfl (pa_cons (pv 0) (pa_cons (pe_ix (kk (K := K) (F := rIxT) (P := IxR _) ix_tup) (pv 1) pe_int (fun _ _ => rfl)) (pa_cons (pv 2) pa_nil)))) (kk (K := K) (F := fun K => gTup K 2 _) (P := PG _ _) (pg_tup rfl (pgs_cons (pg_name (i := 3) sc_shared_of.nd rfl (Or.inl rfl)) (pgs_cons (pg_name (i := 4) sc_shared_of.nd rfl (Or.inl rfl)) pgs_nil)))))
    (pss_cons (ps_asg (pe_cD D_shared_of (hr.less (by omega)) rfl (pa_cons (pv 0) (pa_cons (pe_ix (kk (K := K) (F := rIxT) (P := IxR _) ix_tup) (pv 1) pe_int (fun _ _ => rfl)) (pa_cons (pe_cD D_put_through (hr.less (by omega)) rfl (pa_cons (pv 4) (pa_cons (pv 2) pa_nil))) pa_nil)))) (kk (K := K) (F := fun K => gTup K 2 _) (P := PG _ _) (pg_tup rfl (pgs_cons (pg_name (i := 5) sc_shared_of.nd rfl (Or.inl rfl)) (pgs_cons (pg_name (i := 6) sc_shared_of.nd rfl (Or.inl rfl)) pgs_nil)))))
    (pss_one (ps_ret (pe_tup (pa_cons (pe_op op_cat (pv 3) (pv 5)) (pa_cons (pe_cD D_one_behind (hr.less (by omega)) rfl (pa_cons (pv 4) (pa_cons (pv 6) pa_nil))) pa_nil)))))))), ?_⟩)
    · obtain ⟨k, ps, v, t, f, x, rfl, _⟩ := h; rfl
    · obtain ⟨k, ps, v, t, f, z, rfl, hk, ht, hr, hl, hn, q⟩ := h
      cases t with
      | leaf m =>
        cases (show v = V.int m from ht)
        have e : m = f := hr
        subst e
        have hl' : m < ps.length := hl
        refine ⟨_, rfl, _, _, _, _, _, rfl, .ty _, .base (.int _), kit_ty (b := "tuple") (r := false) (by decide +kernel), _, rfl, iteT ?_⟩
        refine ⟨_, rfl, sz, fun l hL => ⟨_, rfl, _, rfl, k, _, _, _, rfl, rfl, SqT.of ((same_new hL _) _ _ hk.1), at_of (j := m) rfl (by rw [List.getElem?_map, List.getElem?_eq_getElem hl'] <;> rfl), sz, fun r hR => ?_⟩⟩
        have S1 := same_new hL (.lst [.int z])
        have S2 := same_new hR (HO.tup [V.ref l, V.ref ps[m].1])
        refine q r l ps[m].1 _ (S1.trans S2) upd_same (S2 _ _ upd_same) ?_
        show _ = some (HO.tup ((dsOf ps).getD m look).vs)
        rw [show (dsOf ps).getD m look = ps[m].2 by unfold dsOf; rw [List.getD_eq_getElem?_getD, List.getElem?_map, List.getElem?_eq_getElem hl'] <;> rfl]
        exact S2 _ _ (S1 _ _ (hk.2.2.2 ps[m] (List.getElem_mem hl')).1)
      | node l r =>
        obtain ⟨a, x, y, hv, ha, hx, hy⟩ := ht
        cases (show v = V.ref a from hv)
        obtain ⟨i1, i2⟩ := hr
        have hn' : max l.h r.h + 1 ≤ n + 1 := hn
        have hl' : f + (l.cnt + r.cnt) ≤ ps.length := hl
        refine ⟨_, rfl, _, _, _, _, _, rfl, .ty _, .base (.tup ha), kit_ty (b := "tuple") (r := true) (by decide +kernel), _, rfl, iteF ?_⟩
        refine ⟨_, rfl, _, rfl, a, _, _, _, rfl, rfl, SqT.of ha, at_of (j := 0) rfl rfl, _, rfl, k, ps, x, l, f, z, rfl, hk, hx, i1, by omega, by omega, fun r1 l1 b1 H1 S1 g1 g2 g3 => ?_⟩
        refine ⟨r1, _, rfl, SqT.of g1, rfl, _, _, rfl, _, _, rfl, rfl, ?_⟩
        refine ⟨_, rfl, _, rfl, a, _, _, _, rfl, rfl, SqT.of (S1 _ _ ha), at_of (j := 1) rfl rfl, _, rfl, _, rfl, b1, FT (dsOf ps) l, z, rfl, SqT.of g3, k, ps, y, r, f + l.cnt, _, rfl, hk.same S1, hy.same S1, i2, by omega, by omega, fun r2 l2 b2 H2 S2 e1 e2 e3 => ?_⟩
        refine ⟨r2, _, rfl, SqT.of e1, rfl, _, _, rfl, _, _, rfl, rfl, ?_⟩
        have c1 := ST_len (dsOf ps) l z
        have c2 := ST_len (dsOf ps) r ((FT (dsOf ps) l).ap z)
        have h40 := hk.2.2.1
        refine ⟨_, rfl, _, rfl, l1, l2, _, _, rfl, rfl, S2 _ _ g2, e2, small (by rw [List.length_map, List.length_map]; omega), fun L hL => ⟨_, rfl, _, rfl, b1, b2, _, _, rfl, SqT.of ((same_new hL _) _ _ (S2 _ _ g3)), SqT.of ((same_new hL _) _ _ e3), fun c H3 S3 _ hc => ⟨sz, fun r3 h3 => ?_⟩⟩⟩
        have S4 := same_new hL (.lst ((ST (dsOf ps) l z).map V.int ++ (ST (dsOf ps) r ((FT (dsOf ps) l).ap z)).map V.int))
        have S5 := same_new h3 (.tup [.ref L, .ref c])
        refine q r3 L c _ (S1.trans (S2.trans (S4.trans (S3.trans S5)))) upd_same (S5 _ _ (S3 _ _ ?_)) (S5 _ _ hc)
        rw [upd_same]
        show _ = some (HO.lst ((ST (dsOf ps) l z ++ ST (dsOf ps) r ((FT (dsOf ps) l).ap z)).map V.int))
        rw [List.map_append]
theorem k_shared_of (D : Df K mg "shared_of" s_shared_of ["deeds", "tree", "value"]) (D_put_through : Dn P w K mg base 1 "put_through" ["deed", "value"] (spPut K)) (D_one_behind : Dn P w K mg base 2 "one_behind" ["one", "other"] (spBehind K)) : Dn P w K mg base 42 "shared_of" ["deeds", "tree", "value"] ((spShared K) 40) := k_shared_of_rec B D D_put_through D_one_behind 40
def spShare (K : PySem.W.Frag) : Sp := fun vs H Q _ => ∃ (k : Addr) (ps : List (Addr × Dd)) (v : V) (t : Tr) (x : Int), vs = [.ref k, v, .int x] ∧ DsAt H k ps ∧ TrAt H v t ∧ IsRow t 0 ∧ t.cnt = ps.length ∧ ∀ a H', Same H H' → H' a = some (.tup ((ans x (dsOf ps)).map V.int)) → Q (.ref a) H'
theorem k_shared_out (D : Df K mg "shared_out" s_shared_out ["deeds", "tree", "value"]) (D_want_whole : Dn P w K mg base 2 "want_whole" ["thing"] spWantWhole) (D_want_deeds : Dn P w K mg base 4 "want_deeds" ["deeds"] (spWantDeeds K)) (D_want_tree : Dn P w K mg base 6 "want_tree" ["tree", "many"] spWantTree) (D_shared_of : Dn P w K mg base 42 "shared_of" ["deeds", "tree", "value"] ((spShared K) 40)) : Dn P w K mg base 46 "shared_out" ["deeds", "tree", "value"] (spShare K) := by
  refine D.ok fun f fd F => okG0 F sc_shared_out (fun vs H Q E h => ?_) (fun cdv A outer s H vs Q E hr h => ⟨_, (pss_cons (ps_expr (pe_cD D_want_whole (hr.less (by decide)) rfl (pa_cons (pv 2) pa_nil)))
    (pss_cons (ps_expr (pe_cD D_want_deeds (hr.less (by decide)) rfl (pa_cons (pv 0) pa_nil)))
    (pss_cons (ps_expr (pe_cD D_want_tree (hr.less (by decide)) rfl (pa_cons (pv 1) (pa_cons (pe_callB (lenK (K := K)) (by rfl) B.len_ (by decide +kernel) (pa_cons (pv 0) pa_nil)) pa_nil))))
    (pss_one (ps_ret (pe_callTy (tupOfK (K := K)) (by rfl) B.tuple_ (by decide +kernel) (pa_cons (pe_ix (kk (K := K) (F := rIxT) (P := IxR _) ix_tup) (pe_cD D_shared_of (hr.less (by decide)) rfl (pa_cons (pv 0) (pa_cons (pv 1) (pa_cons (pv 2) pa_nil)))) pe_int (fun _ _ => rfl)) pa_nil))))))), ?_⟩)
  · obtain ⟨k, ps, v, t, x, rfl, _⟩ := h; rfl
  · obtain ⟨k, ps, v, t, x, rfl, hk, ht, hr, hc, q⟩ := h
    have hk0 := hk.2
    refine ⟨_, rfl, x, rfl, _, rfl, k, ps, rfl, hk, fun H1 S1 => ?_⟩
    refine ⟨_, rfl, _, rfl, k, _, rfl, .inr (SqT.of (hk.same S1).1), v, t, ps.length, by rw [List.length_map] <;> rfl, ht.same S1, hr, hc, by omega, fun H2 S2 => ?_⟩
    have S12 := S1.trans S2
    refine ⟨_, rfl, _, rfl, _, rfl, k, ps, v, t, 0, x, rfl, hk.same S12, ht.same S12, hr, by omega, Nat.le_trans t.h_cnt (by omega), fun r l a H3 S3 h1 h2 h3 => ?_⟩
    rw [ST_all hk.oks hr (by rw [hc]; exact (List.length_map _).symm)] at h2
    refine ⟨r, _, _, _, rfl, rfl, SqT.of h1, at_of (j := 0) rfl rfl, l, _, rfl, .inl ⟨SqL.of h2, fun b hb => ?_⟩⟩
    exact q b _ (S12.trans (S3.trans (same_new hb _))) upd_same
def spIsBoard (K : PySem.W.Frag) : Sp := fun vs H Q _ => ∃ (b : Addr) (bs : List Int), vs = [.ref b] ∧ BoardAt H b bs ∧ ∀ H', Same H H' → Q (.bl true) H'
theorem k_is_board (D : Df K mg "is_board" s_is_board ["thing"]) (D_is_whole : Dn P w K mg base 1 "is_whole" ["thing"] spIsWhole) : Dn P w K mg base 2 "is_board" ["thing"] (spIsBoard K) := by
  refine D.ok fun f fd F => okG0 F sc_is_board (fun vs H Q E h => ?_) (fun cdv A outer s H vs Q E hr h => ⟨_, (pss_one (ps_ret (pe_and (pe_callB (kk (K := K) (F := rIsi) (P := CallR _ _) call_isi) (by rfl) B.isinstance_ (by decide +kernel) (pa_cons (pv 0) (pa_cons (pe_bltn (v := .ty "tuple") (u := .type "tuple") (by rfl) B.tuple_ (by decide +kernel) rfl) pa_nil))) (pe_and (pe_chain op_le op_le pe_int (pe_callB (lenK (K := K)) (by rfl) B.len_ (by decide +kernel) (pa_cons (pv 0) pa_nil)) (pe_glob (v := .int (16)) (u := .int (16) B.MOST_BOXES_.choose) (by rfl) B.MOST_BOXES_.choose_spec ⟨_, rfl⟩)) (pe_one (pe_callB (kk (K := K) (F := rAll) (P := CallR _ _) (cr_all rfl)) (by rfl) B.all_ (by decide +kernel) (pa_cons (pe_lc (own := [("value", 1)]) (g := gName 1) (tt := tYes) rfl sc_is_board.nd (kk (K := K) (F := fun K => iTup K _) (P := PI _ _ _) (pi_tup (pv 0))) (blkOk_by (own := [("value", 1)]) (N := ["thing", "value"]) (sc := defScope s_is_board) (by decide +kernel)) (fun _ _ _ _ _ => (pg_name (i := 1) sc_is_board.nd rfl (Or.inl rfl))) (fun _ _ _ _ _ => pts_nil) (fun _ _ _ _ _ => (pe_cD D_is_whole (hr.less (by decide)) rfl (pa_cons (pv 1) pa_nil)))) pa_nil))))))), ?_⟩)
  · obtain ⟨b, bs, rfl, _⟩ := h; rfl
  · obtain ⟨b, bs, rfl, hb, q⟩ := h
    have hl := hb.2
    refine ⟨_, rfl, _, _, _, _, _, rfl, .ty _, .base (.tup hb.1), kit_ty (b := "tuple") (r := true) (by decide +kernel), _, rfl, iteT ?_⟩
    refine ⟨_, rfl, b, _, rfl, .inr (SqT.of hb.1), ?_⟩
    refine ⟨_, _, rfl, rfl, _, rfl, ifT (by rw [List.length_map]; exact decide_eq_true (by omega)) ?_⟩
    refine ⟨_, _, rfl, rfl, _, rfl, ifT (by rw [List.length_map]; exact decide_eq_true (by omega)) ?_⟩
    refine ⟨_, rfl, b, rfl, ⟨_, SqT.of hb.1⟩, fun D hD => ?_⟩
    refine lc_tup (K := K) (a := b) (xs := bs.map V.int) (fun i H2 => Same H H2 ∧ H2 D = some (.lst ((List.replicate i true).map V.bl))) ⟨same_new hD _, upd_same⟩ (fun i H2 _ h => SqT.of (h.1 _ _ hb.1)) ?_ ?_
    · rintro i y H2 hi ⟨S2, hD2⟩
      obtain ⟨x, rfl, hx⟩ := at_map hi
      have hi2 : i < bs.length := (List.getElem?_eq_some_iff.mp hx).1
      refine ⟨rfl, ?_⟩
      exact ⟨_, rfl, x, rfl, _, hD2, by rw [rep_len]; exact small1000 (by omega), but_same hD S2 But.upd, by rw [upd_same, rep_snoc]⟩
    · rintro H2 ⟨S2, hD2⟩
      refine ⟨D, _, rfl, SqL.of hD2, ?_⟩
      rw [rep_all]
      exact q _ S2
def spWantBoard (K : PySem.W.Frag) : Sp := fun vs H Q _ => ∃ (b : Addr) (bs : List Int), vs = [.ref b] ∧ BoardAt H b bs ∧ ∀ H', Same H H' → Q .non H'
theorem k_want_board (D : Df K mg "want_board" s_want_board ["board"]) (D_is_board : Dn P w K mg base 2 "is_board" ["thing"] (spIsBoard K)) : Dn P w K mg base 3 "want_board" ["board"] (spWantBoard K) := by
  refine D.ok fun f fd F => okG0 F sc_want_board (fun vs H Q E h => ?_) (fun cdv A outer s H vs Q E hr h => ⟨_, (pss_one (ps_if (pt_not (pt_val (pe_cD D_is_board (hr.less (by decide)) rfl (pa_cons (pv 0) pa_nil))))
     (pss_one ps_never)
     pss_nil)), ?_⟩)
  · obtain ⟨b, bs, rfl, _⟩ := h; rfl
  · obtain ⟨b, bs, rfl, hb, q⟩ := h
    exact ⟨_, rfl, b, bs, rfl, hb, fun H' S => ⟨_, rfl, iteF (q _ S)⟩⟩
def spIsAsk (K : PySem.W.Frag) : Sp := fun vs H Q _ => ∃ (b : Addr) (bs : List Int) (x : Ak), vs = [.ref b, .ref x.a] ∧ BoardAt H b bs ∧ x.at_ H bs.length ∧ Q (.bl true) H
theorem k_is_ask (D : Df K mg "is_ask" s_is_ask ["board", "thing"]) (D_is_whole : Dn P w K mg base 1 "is_whole" ["thing"] spIsWhole) (D_is_deed : Dn P w K mg base 3 "is_deed" ["thing"] (spIsDeed K)) : Dn P w K mg base 4 "is_ask" ["board", "thing"] (spIsAsk K) := by
  refine D.ok fun f fd F => okG0 F sc_is_ask (fun vs H Q E h => ?_) (fun cdv A outer s H vs Q E hr h => ⟨_, (pss_cons (ps_if (PW.pt (pw_or (pt_not (pt_val (pe_callB (kk (K := K) (F := rIsi) (P := CallR _ _) call_isi) (by rfl) B.isinstance_ (by decide +kernel) (pa_cons (pv 1) (pa_cons (pe_bltn (v := .ty "tuple") (u := .type "tuple") (by rfl) B.tuple_ (by decide +kernel) rfl) pa_nil))))) (pw_or (pt_cmpR op_ne (pe_callB (lenK (K := K)) (by rfl) B.len_ (by decide +kernel) (pa_cons (pv 1) pa_nil)) pe_int (nomark _)) (pw_or (pt_not (pt_val (pe_cD D_is_whole (hr.less (by decide)) rfl (pa_cons (pe_ix (kk (K := K) (F := rIxT) (P := IxR _) ix_tup) (pv 1) pe_int (fun _ _ => rfl)) pa_nil)))) (pw_or1 (pt_not (pt_val (pe_cD D_is_whole (hr.less (by decide)) rfl (pa_cons (pe_ix (kk (K := K) (F := rIxT) (P := IxR _) ix_tup) (pv 1) pe_int (fun _ _ => rfl)) pa_nil)))))))))
      (pss_one (ps_ret pe_bl))
      pss_nil)
    (pss_one (ps_ret (pe_and (pe_chain op_le op_lt pe_int (pe_ix (kk (K := K) (F := rIxT) (P := IxR _) ix_tup) (pv 1) pe_int (fun _ _ => rfl)) (pe_glob (v := .int (16)) (u := .int (16) B.HANDS_.choose) (by rfl) B.HANDS_.choose_spec ⟨_, rfl⟩)) (pe_and (pe_chain op_le op_lt pe_int (pe_ix (kk (K := K) (F := rIxT) (P := IxR _) ix_tup) (pv 1) pe_int (fun _ _ => rfl)) (pe_callB (lenK (K := K)) (by rfl) B.len_ (by decide +kernel) (pa_cons (pv 0) pa_nil))) (pe_one (pe_cD D_is_deed (hr.less (by decide)) rfl (pa_cons (pe_ix (kk (K := K) (F := rIxT) (P := IxR _) ix_tup) (pv 1) pe_int (fun _ _ => rfl)) pa_nil)))))))), ?_⟩)
  · obtain ⟨b, bs, x, rfl, _⟩ := h; rfl
  · obtain ⟨b, bs, x, rfl, hb, hx, q⟩ := h
    obtain ⟨hxa, hxd, h0, h1, hbx⟩ := hx
    refine ⟨_, rfl, _, _, _, _, _, rfl, .ty _, .base (.tup hxa), kit_ty (b := "tuple") (r := true) (by decide +kernel), _, rfl, iteF ?_⟩
    refine ⟨_, rfl, _, _, rfl, .inr (SqT.of hxa), rfl, _, rfl, iteF ?_⟩
    refine ⟨_, rfl, x.a, _, _, _, rfl, rfl, SqT.of hxa, at_of (j := 0) rfl rfl, _, rfl, _, rfl, iteF ?_⟩
    refine ⟨_, rfl, x.a, _, _, _, rfl, rfl, SqT.of hxa, at_of (j := 1) rfl rfl, _, rfl, _, rfl, iteF ?_⟩
    refine ⟨_, rfl, x.a, _, _, _, rfl, rfl, SqT.of hxa, at_of (j := 0) rfl rfl, ?_⟩
    refine ⟨_, _, rfl, rfl, _, rfl, ifT (decide_eq_true h0) ?_⟩
    refine ⟨_, _, rfl, rfl, _, rfl, ifT (decide_eq_true h1) ?_⟩
    refine ⟨_, rfl, x.a, _, _, _, rfl, rfl, SqT.of hxa, at_of (j := 1) rfl rfl, ?_⟩
    refine ⟨_, _, rfl, rfl, _, rfl, ifT (decide_eq_true (by omega)) ?_⟩
    refine ⟨_, rfl, b, _, rfl, .inr (SqT.of hb.1), ?_⟩
    refine ⟨_, _, rfl, rfl, _, rfl, ifT (decide_eq_true (by rw [List.length_map]; omega)) ?_⟩
    exact ⟨_, rfl, x.a, _, _, _, rfl, rfl, SqT.of hxa, at_of (j := 2) rfl rfl, x.da, x.d, rfl, hxd.arg, q⟩
def spAreAsks (K : PySem.W.Frag) : Sp := fun vs H Q _ => ∃ (b k : Addr) (bs : List Int) (as : List Ak), vs = [.ref b, .ref k] ∧ BoardAt H b bs ∧ AsksAt H k as bs.length ∧ ∀ H', Same H H' → Q (.bl true) H'
theorem k_are_asks (D : Df K mg "are_asks" s_are_asks ["board", "thing"]) (D_want_board : Dn P w K mg base 3 "want_board" ["board"] (spWantBoard K)) (D_is_ask : Dn P w K mg base 4 "is_ask" ["board", "thing"] (spIsAsk K)) : Dn P w K mg base 5 "are_asks" ["board", "thing"] (spAreAsks K) := by
  refine D.ok fun f fd F => okG0 F sc_are_asks (fun vs H Q E h => ?_) (fun cdv A outer s H vs Q E hr h => ⟨_, (pss_cons (ps_expr (pe_cD D_want_board (hr.less (by decide)) rfl (pa_cons (pv 0) pa_nil)))
    (pss_one (ps_ret (pe_and (pe_callB (kk (K := K) (F := rIsi) (P := CallR _ _) call_isi) (by rfl) B.isinstance_ (by decide +kernel) (pa_cons (pv 1) (pa_cons (pe_bltn (v := .ty "tuple") (u := .type "tuple") (by rfl) B.tuple_ (by decide +kernel) rfl) pa_nil))) (pe_one (pe_callB (kk (K := K) (F := rAll) (P := CallR _ _) (cr_all rfl)) (by rfl) B.all_ (by decide +kernel) (pa_cons (pe_lc (own := [("one", 2)]) (g := gName 2) (tt := tYes) rfl sc_are_asks.nd (kk (K := K) (F := fun K => iTup K _) (P := PI _ _ _) (pi_tup (pv 1))) (blkOk_by (own := [("one", 2)]) (N := ["board", "thing", "one"]) (sc := defScope s_are_asks) (by decide +kernel)) (fun _ _ _ _ _ => (pg_name (i := 2) sc_are_asks.nd rfl (Or.inl rfl))) (fun _ _ _ _ _ => pts_nil) (fun _ _ _ _ _ => (pe_cD D_is_ask (hr.less (by decide)) rfl (pa_cons (pv 0) (pa_cons (pv 2) pa_nil))))) pa_nil))))))), ?_⟩)
  · obtain ⟨b, k, bs, as, rfl, _⟩ := h; rfl
  · obtain ⟨b, k, bs, as, rfl, hb, hk, q⟩ := h
    refine ⟨_, rfl, b, bs, rfl, hb, fun H1 S1 => ?_⟩
    have hk1 := hk.same S1
    refine ⟨_, rfl, _, _, _, _, _, rfl, .ty _, .base (.tup hk1.1), kit_ty (b := "tuple") (r := true) (by decide +kernel), _, rfl, iteT ?_⟩
    refine ⟨_, rfl, k, rfl, ⟨_, SqT.of hk1.1⟩, fun D hD => ?_⟩
    refine lc_tup (K := K) (a := k) (xs := as.map fun x => .ref x.a) (fun i H2 => Same H1 H2 ∧ H2 D = some (.lst ((List.replicate i true).map V.bl))) ⟨same_new hD _, upd_same⟩ (fun i H2 _ h => SqT.of (h.1 _ _ hk1.1)) ?_ ?_
    · rintro i y H2 hi ⟨S2, hD2⟩
      rw [List.getElem?_map] at hi
      obtain ⟨x, hx, rfl⟩ := Option.map_eq_some_iff.mp hi
      have hi2 : i < as.length := (List.getElem?_eq_some_iff.mp hx).1
      have hl := hk.2.1
      refine ⟨rfl, ?_⟩
      exact ⟨_, rfl, _, rfl, b, bs, x, rfl, (hb.same S1).same S2, ((hk1.2.2 x (List.mem_of_getElem? hx)).same S2), _, hD2, by rw [rep_len]; exact small1000 (by omega), but_same hD S2 But.upd, by rw [upd_same, rep_snoc]⟩
    · rintro H2 ⟨S2, hD2⟩
      refine ⟨D, _, rfl, SqL.of hD2, ?_⟩
      rw [rep_all]
      exact q _ (S1.trans S2)
def spWantAsks (K : PySem.W.Frag) : Sp := fun vs H Q _ => ∃ (b k : Addr) (bs : List Int) (as : List Ak), vs = [.ref b, .ref k] ∧ BoardAt H b bs ∧ AsksAt H k as bs.length ∧ ∀ H', Same H H' → Q .non H'
theorem k_want_asks (D : Df K mg "want_asks" s_want_asks ["board", "asks"]) (D_are_asks : Dn P w K mg base 5 "are_asks" ["board", "thing"] (spAreAsks K)) : Dn P w K mg base 6 "want_asks" ["board", "asks"] (spWantAsks K) := by
  refine D.ok fun f fd F => okG0 F sc_want_asks (fun vs H Q E h => ?_) (fun cdv A outer s H vs Q E hr h => ⟨_, (pss_one (ps_if (pt_not (pt_val (pe_cD D_are_asks (hr.less (by decide)) rfl (pa_cons (pv 0) (pa_cons (pv 1) pa_nil)))))
     (pss_one ps_never)
     pss_nil)), ?_⟩)
  · obtain ⟨b, k, bs, as, rfl, _⟩ := h; rfl
  · obtain ⟨b, k, bs, as, rfl, hb, hk, q⟩ := h
    exact ⟨_, rfl, _, rfl, b, k, bs, as, rfl, hb, hk, fun H' S => ⟨_, rfl, iteF (q _ S)⟩⟩
def spPlay (K : PySem.W.Frag) : Sp := fun vs H Q _ => ∃ (b k : Addr) (bs : List Int) (as : List Ak), vs = [.ref b, .ref k] ∧ BoardAt H b bs ∧ AsksAt H k as bs.length ∧
  ∀ r t1 t2 H', Same H H' → H' r = some (.tup [.ref t1, .ref t2]) → H' t1 = some (.tup ((play as bs).1.map V.int)) → H' t2 = some (.tup ((play as bs).2.map V.int)) → Q (.ref r) H'
theorem k_played (D : Df K mg "played" s_played ["board", "asks"]) (D_want_asks : Dn P w K mg base 6 "want_asks" ["board", "asks"] (spWantAsks K)) (D_put_through : Dn P w K mg base 1 "put_through" ["deed", "value"] (spPut K)) : Dn P w K mg base 7 "played" ["board", "asks"] (spPlay K) := by
  refine D.ok fun f fd F => okG0 F sc_played (fun vs H Q E h => ?_) (fun cdv A outer s H vs Q E hr h => ⟨_, (pss_cons (ps_expr (pe_cD D_want_asks (hr.less (by decide)) rfl (pa_cons (pv 0) (pa_cons (pv 1) pa_nil))))
    (pss_cons (ps_set (i := 2) sc_played.nd rfl (Or.inl rfl) (pe_callTy (lstOfK (K := K)) (by rfl) B.list_ (by decide +kernel) (pa_cons (pv 0) pa_nil)))
    (pss_cons (ps_set (i := 3) sc_played.nd rfl (Or.inl rfl) (pe_lst pa_nil))
    (pss_cons (ps_for PassesOwn.never rfl (kk (K := K) (F := fun K => iTup K _) (P := PI _ _ _) (pi_tup (pv 1))) (kk (K := K) (F := fun K => gTup K 3 _) (P := PG _ _) (pg_tup rfl (pgs_cons (pg_name (i := 4) sc_played.nd rfl (Or.inl rfl)) (pgs_cons (pg_name (i := 5) sc_played.nd rfl (Or.inl rfl)) (pgs_cons (pg_name (i := 6) sc_played.nd rfl (Or.inl rfl)) pgs_nil)))))
      (pss_cons (ps_expr (kk (K := K) (F := fun K => tBM K "list" _ _ _) (P := PE _ _) (pe_bm PySem.F.plainAttrs_list PySem.F.slot_list_append PySem.F.type_list_append mt_append (pv 3) (pa_cons (pe_ix (kk (K := K) (F := rIxL) (P := IxR _) ix_list) (pv 2) (pv 5) (fun _ _ => rfl)) pa_nil))))
      (pss_one (ps_asg (pe_cD D_put_through (hr.less (by decide)) rfl (pa_cons (pv 6) (pa_cons (pe_ix (kk (K := K) (F := rIxL) (P := IxR _) ix_list) (pv 2) (pv 5) (fun _ _ => rfl)) pa_nil))) (pg_sub (pv 2) (pv 5) set_list)))))
    (pss_one (ps_ret (pe_tup (pa_cons (pe_callTy (tupOfK (K := K)) (by rfl) B.tuple_ (by decide +kernel) (pa_cons (pv 3) pa_nil)) (pa_cons (pe_callTy (tupOfK (K := K)) (by rfl) B.tuple_ (by decide +kernel) (pa_cons (pv 2) pa_nil)) pa_nil))))))))), ?_⟩)
  · obtain ⟨b, k, bs, as, rfl, _⟩ := h; rfl
  · obtain ⟨b, k, bs, as, rfl, hb, hk, q⟩ := h
    refine ⟨_, rfl, _, rfl, b, k, bs, as, rfl, hb, hk, fun H1 S1 => ?_⟩
    have hb1 := hb.same S1
    have hk1 := hk.same S1
    refine ⟨_, rfl, b, _, rfl, .inr (SqT.of hb1.1), fun L hL => ⟨sz, fun M hM => ?_⟩⟩
    have S0 := S1
    have nLM : L ≠ M := ne_of_none upd_same hM
    have hM0 := (same_new hL (.lst (bs.map V.int))).free hM
    refine ⟨_, rfl, k, rfl, ⟨_, SqT.of ((same_new hM _) _ _ ((same_new hL _) _ _ hk1.1))⟩, ?_⟩
    refine for_tup (K := K) (a := k) (xs := as.map fun x => .ref x.a) (fun i σ H2 => ∃ v4 v5 v6 : Option V, σ = [some (.ref b), some (.ref k), some (.ref L), some (.ref M), v4, v5, v6] ∧ Same H1 H2 ∧ H2 L = some (.lst ((play (as.take i) bs).2.map V.int)) ∧ H2 M = some (.lst ((play (as.take i) bs).1.map V.int)))
      ⟨none, none, none, rfl, (same_new hL _).trans (same_new hM _), by rw [upd_ne nLM, upd_same] <;> rfl, upd_same⟩ (fun i σ H2 _ h => by obtain ⟨_, _, _, _, h2, _⟩ := h; exact SqT.of (h2 _ _ hk1.1)) ?_ ?_
    · rintro i y σ H2 hi ⟨v4, v5, v6, rfl, S2, hL2, hM2⟩
      rw [List.getElem?_map] at hi
      obtain ⟨x, hx, rfl⟩ := Option.map_eq_some_iff.mp hi
      have hil : i < as.length := (List.getElem?_eq_some_iff.mp hx).1
      obtain ⟨l1, l2⟩ := play_len (as := as.take i) (bs := bs)
      rw [play_snoc hx]
      generalize play (as.take i) bs = st at hL2 hM2 l1 l2
      have hx1 := (hk1.2.2 x (List.mem_of_getElem? hx)).same S2
      have hbx : x.box < st.2.length := by rw [l2]; exact hx1.2.2.2.2
      have h40 := hk.2.1
      have l1' : st.1.length ≤ 40 := by rw [l1, List.length_take]; omega
      refine ⟨x.a, _, rfl, SqT.of hx1.1, rfl, _, _, rfl, _, _, rfl, _, _, rfl, rfl, ?_⟩
      refine ⟨_, rfl, .inl ⟨rfl, _, SqL.of hM2⟩, _, rfl, _, rfl, L, _, _, _, rfl, rfl, SqL.of hL2, at_of (j := x.box) rfl (map_getD hbx), M, _, _, rfl, rfl, hM2, small1000 (by rw [List.length_map]; omega), ?_⟩
      have hL3 : (upd H2 M (.lst (st.1.map V.int ++ [.int (st.2.getD x.box 0)]))) L = some (.lst (st.2.map V.int)) := by rw [upd_ne nLM]; exact hL2
      have hda : x.da ≠ M := ne_of hx1.2.1.1 hM2 (by intro z; cases z)
      refine ⟨_, rfl, _, rfl, _, rfl, L, _, _, _, rfl, rfl, SqL.of hL3, at_of (j := x.box) rfl (map_getD hbx), x.da, x.d, _, rfl, SqT.of (by rw [upd_ne hda]; exact hx1.2.1.1), ?_⟩
      refine ⟨_, rfl, _, rfl, L, _, _, _, rfl, rfl, hL3, ixn (by rw [List.length_map]; exact hbx), ?_⟩
      refine ⟨_, _, _, rfl, ?_, ?_, ?_⟩
      · exact fun a o ha => by rw [upd_ne (ne_of_none ha hL), upd_ne (ne_of_none ha hM0)]; exact S2 _ _ ha
      · rw [upd_same, ← List.map_set] <;> rfl
      · rw [upd_ne nLM.symm, upd_same, show (stepP st x).1 = st.1 ++ [st.2.getD x.box 0] from rfl, List.map_append] <;> rfl
    · rintro σ H2 ⟨v4, v5, v6, rfl, S2, hL2, hM2⟩
      rw [List.length_map, List.take_length] at hL2 hM2
      refine ⟨_, rfl, M, _, rfl, .inl ⟨SqL.of hM2, fun t1 ht1 => ?_⟩⟩
      have S3 := same_new ht1 (.tup ((play as bs).1.map V.int))
      refine ⟨_, rfl, L, _, rfl, .inl ⟨SqL.of (S3 _ _ hL2), fun t2 ht2 => ⟨sz, fun r hr => ?_⟩⟩⟩
      have S4 := same_new ht2 (.tup ((play as bs).2.map V.int))
      have S5 := same_new hr (.tup [.ref t1, .ref t2])
      exact q r t1 t2 _ (S0.trans (S2.trans (S3.trans (S4.trans S5)))) upd_same (S5 _ _ (S4 _ _ upd_same)) (S5 _ _ upd_same)
def spAll (K : PySem.W.Frag) : Sp := fun vs H Q _ => ∃ (b k : Addr) (bs : List Int) (as : List Ak), vs = [.ref b, .ref k] ∧ BoardAt H b bs ∧ AsksAt H k as bs.length ∧
  ∀ (T : Addr) (ps : List (Addr × Dd)) (H' : Hp), Same H H' → H' T = some (.tup (ps.map fun x => V.ref x.1)) → dsOf ps = (madeOf as bs.length).2 → RefsAt K H' ps → Q (.ref T) H'
theorem k_all_of (D : Df K mg "all_of" s_all_of ["board", "asks"]) (D_want_asks : Dn P w K mg base 6 "want_asks" ["board", "asks"] (spWantAsks K)) (D_one_behind : Dn P w K mg base 2 "one_behind" ["one", "other"] (spBehind K)) : Dn P w K mg base 7 "all_of" ["board", "asks"] (spAll K) := by
  refine D.ok fun f fd F => okG0 F sc_all_of (fun vs H Q E h => ?_) (fun cdv A outer s H vs Q E hr h => ⟨_, (pss_cons (ps_expr (pe_cD D_want_asks (hr.less (by decide)) rfl (pa_cons (pv 0) (pa_cons (pv 1) pa_nil))))
    (pss_cons (ps_set (i := 2) sc_all_of.nd rfl (Or.inl rfl) (pe_op op_rep (pe_lst (pa_cons (pe_glob (v := .ref B.LOOK_.choose) (by rfl) B.LOOK_.choose_spec.1 rfl) pa_nil)) (pe_callB (lenK (K := K)) (by rfl) B.len_ (by decide +kernel) (pa_cons (pv 0) pa_nil))))
    (pss_cons (ps_for PassesOwn.never rfl (kk (K := K) (F := fun K => iTup K _) (P := PI _ _ _) (pi_tup (pv 1))) (kk (K := K) (F := fun K => gTup K 3 _) (P := PG _ _) (pg_tup rfl (pgs_cons (pg_name (i := 3) sc_all_of.nd rfl (Or.inl rfl)) (pgs_cons (pg_name (i := 4) sc_all_of.nd rfl (Or.inl rfl)) (pgs_cons (pg_name (i := 5) sc_all_of.nd rfl (Or.inl rfl)) pgs_nil)))))
      (pss_one (ps_asg (pe_cD D_one_behind (hr.less (by decide)) rfl (pa_cons (pe_ix (kk (K := K) (F := rIxL) (P := IxR _) ix_list) (pv 2) (pv 4) (fun _ _ => rfl)) (pa_cons (pv 5) pa_nil))) (pg_sub (pv 2) (pv 4) set_list))))
    (pss_one (ps_ret (pe_callTy (tupOfK (K := K)) (by rfl) B.tuple_ (by decide +kernel) (pa_cons (pv 2) pa_nil))))))), ?_⟩)
  · obtain ⟨b, k, bs, as, rfl, _⟩ := h; rfl
  · obtain ⟨b, k, bs, as, rfl, hb, hk, q⟩ := h
    refine ⟨_, rfl, _, rfl, b, k, bs, as, rfl, hb, hk, fun H1 S1 => ?_⟩
    have hb1 := hb.same S1
    have hk1 := hk.same S1
    have hn := hb.2
    refine ⟨sz, fun l hl => ⟨_, rfl, b, _, rfl, .inr (SqT.of ((same_new hl _) _ _ hb1.1)), l, _, _, rfl, rfl, upd_same, by omega, by rw [List.length_map]; omega, small (by rw [List.length_map]; show 1 * _ ≤ 1000; omega), fun L hL => ?_⟩⟩
    rw [List.length_map, show ((bs.length : Nat) : Int).toNat = bs.length from Int.toNat_natCast _, refs_new] at *
    have S2 := same_new hl (.lst [.ref B.LOOK_.choose])
    have S3 := same_new hL (.lst (List.replicate bs.length (V.ref B.LOOK_.choose)))
    have S13 := S2.trans S3
    have hL1 : H1 L = none := S2.free hL
    have hL3 : (upd (upd H1 l (.lst [.ref B.LOOK_.choose])) L (.lst (List.replicate bs.length (V.ref B.LOOK_.choose)))) L = some (.lst ((List.replicate bs.length (B.LOOK_.choose, look)).map fun x => V.ref x.1)) := by rw [upd_same, List.map_replicate]
    generalize upd (upd H1 l (.lst [.ref B.LOOK_.choose])) L (.lst (List.replicate bs.length (V.ref B.LOOK_.choose))) = H3 at S13 hL3
    refine ⟨_, rfl, k, rfl, ⟨_, SqT.of (S13 _ _ hk1.1)⟩, ?_⟩
    refine for_tup (K := K) (a := k) (xs := as.map fun x => .ref x.a) (fun i σ H4 => ∃ (ps : List (Addr × Dd)) (v3 v4 v5 : Option V), σ = [some (.ref b), some (.ref k), some (.ref L), v3, v4, v5] ∧ Same H1 H4 ∧ H4 L = some (.lst (ps.map fun x => V.ref x.1)) ∧ dsOf ps = (madeOf (as.take i) bs.length).2 ∧ RefsAt K H4 ps)
      ⟨_, none, none, none, rfl, S13, hL3, by unfold dsOf; rw [List.map_replicate] <;> rfl, fun x hx => by rw [(List.mem_replicate.mp hx).2]; exact .inr B.LOOK_.choose_spec.2⟩ (fun i σ H4 _ h => by obtain ⟨_, _, _, _, _, h2, _⟩ := h; exact SqT.of (h2 _ _ hk1.1)) ?_ ?_
    · rintro i y σ H4 hi ⟨ps, v3, v4, v5, rfl, S4, hL4, hds, hps⟩
      rw [List.getElem?_map] at hi
      obtain ⟨x, hx, rfl⟩ := Option.map_eq_some_iff.mp hi
      have l2 := (made_len (as := as.take i) (n := bs.length)).2
      rw [made_snoc hx]
      generalize madeOf (as.take i) bs.length = st at hds l2
      have hx1 := (hk1.2.2 x (List.mem_of_getElem? hx)).same S4
      have hlp : ps.length = bs.length := by rw [← l2, ← hds]; unfold dsOf; rw [List.length_map]
      obtain ⟨y, hy, hym, hyd, hyr⟩ := refs_get (ps := ps) (i := x.box) (by rw [hlp]; exact hx1.2.2.2.2)
      refine ⟨x.a, _, rfl, SqT.of hx1.1, rfl, _, _, rfl, _, _, rfl, _, _, rfl, rfl, ?_⟩
      refine ⟨_, rfl, _, rfl, L, _, _, _, rfl, rfl, SqL.of hL4, at_of (j := x.box) rfl hyr, _, rfl, y.1, x.da, y.2, x.d, rfl, hps y hym, SqT.of hx1.2.1.1, fun c H5 S5 _ hc => ?_⟩
      have hL5 := S5 _ _ hL4
      refine ⟨_, rfl, _, rfl, L, _, _, _, rfl, rfl, hL5, ixn (by rw [List.length_map, hlp]; exact hx1.2.2.2.2), ?_⟩
      refine ⟨ps.set x.box (c, beh y.2 x.d), _, _, _, rfl, ?_, ?_, ?_, refs_set hL5 (hps.same S5) hc⟩
      · exact fun a o ha => by rw [upd_ne (ne_of_none ha hL1)]; exact S5 _ _ (S4 _ _ ha)
      · rw [upd_same, List.map_set] <;> rfl
      · unfold dsOf
        rw [List.map_set]
        show (dsOf ps).set x.box (beh y.2 x.d) = st.2.set x.box (beh (st.2.getD x.box look) x.d)
        rw [hyd, hds]
    · rintro σ H4 ⟨ps, v3, v4, v5, rfl, S4, hL4, hds, hps⟩
      rw [List.length_map, List.take_length] at hds
      refine ⟨_, rfl, L, _, rfl, .inl ⟨SqL.of hL4, fun T hT => ?_⟩⟩
      have S5 := same_new hT (.tup (ps.map fun x => V.ref x.1))
      exact q T ps _ (S1.trans (S4.trans S5)) upd_same hds (hps.same S5)
/-! ### the program: tables, families -/
def spAreNums (K : PySem.W.Frag) : Sp := fun vs H Q _ => ∃ (T : Addr) (xs : List Nat) (N : Nat), vs = [.ref T, .int N] ∧ H T = some (.tup ((iN xs).map V.int)) ∧ Bel xs N ∧ xs.length ≤ 100 ∧ ∀ H', Same H H' → Q (.bl true) H'
theorem k_are_numbers (D : Df K mg "are_numbers" s_are_numbers ["thing", "many"]) (D_is_whole : Dn P w K mg base 1 "is_whole" ["thing"] spIsWhole) : Dn P w K mg base 2 "are_numbers" ["thing", "many"] (spAreNums K) := by
  refine D.ok fun f fd F => okG0 F sc_are_numbers (fun vs H Q E h => ?_) (fun cdv A outer s H vs Q E hr h => ⟨_, (pss_one (ps_ret (pe_and (pe_callB (kk (K := K) (F := rIsi) (P := CallR _ _) call_isi) (by rfl) B.isinstance_ (by decide +kernel) (pa_cons (pv 0) (pa_cons (pe_bltn (v := .ty "tuple") (u := .type "tuple") (by rfl) B.tuple_ (by decide +kernel) rfl) pa_nil))) (pe_one (pe_callB (kk (K := K) (F := rAll) (P := CallR _ _) (cr_all rfl)) (by rfl) B.all_ (by decide +kernel) (pa_cons (pe_lc (own := [("number", 2)]) (g := gName 2) (tt := tYes) rfl sc_are_numbers.nd (kk (K := K) (F := fun K => iTup K _) (P := PI _ _ _) (pi_tup (pv 0))) (blkOk_by (own := [("number", 2)]) (N := ["thing", "many", "number"]) (sc := defScope s_are_numbers) (by decide +kernel)) (fun _ _ _ _ _ => (pg_name (i := 2) sc_are_numbers.nd rfl (Or.inl rfl))) (fun _ _ _ _ _ => pts_nil) (fun _ _ _ _ _ => (pe_and (pe_cD D_is_whole (hr.less (by decide)) rfl (pa_cons (pv 2) pa_nil)) (pe_one (pe_chain op_le op_lt pe_int (pv 2) (pv 1)))))) pa_nil)))))), ?_⟩)
  · obtain ⟨T, xs, N, rfl, _⟩ := h; rfl
  · obtain ⟨T, xs, N, rfl, hT, hb, hl, q⟩ := h
    refine ⟨_, rfl, _, _, _, _, _, rfl, .ty _, .base (.tup hT), kit_ty (b := "tuple") (r := true) (by decide +kernel), _, rfl, iteT ?_⟩
    refine ⟨_, rfl, T, rfl, ⟨_, SqT.of hT⟩, fun D hD => ?_⟩
    refine lc_tup (K := K) (a := T) (xs := (iN xs).map V.int) (fun i H2 => Same H H2 ∧ H2 D = some (.lst ((List.replicate i true).map V.bl))) ⟨same_new hD _, upd_same⟩ (fun i H2 _ h => SqT.of (h.1 _ _ hT)) ?_ ?_
    · rintro i y H2 hi ⟨S2, hD2⟩
      obtain ⟨n, rfl, hn⟩ := iN_mem hi
      have hil := (List.getElem?_eq_some_iff.mp hn).1
      have hlt := hb n (List.mem_of_getElem? hn)
      refine ⟨rfl, _, rfl, (n : Int), rfl, _, rfl, iteT ?_⟩
      refine ⟨_, rfl, _, _, rfl, rfl, _, rfl, ifT (decide_eq_true (by omega)) ⟨_, rfl, _, _, rfl, rfl, ?_⟩⟩
      dsimp only
      rw [decide_eq_true (show (n : Int) < (N : Int) by omega)]
      exact ⟨_, hD2, by rw [rep_len]; exact small1000 (by omega), but_same hD S2 But.upd, by rw [upd_same, rep_snoc]⟩
    · rintro H2 ⟨S2, hD2⟩
      refine ⟨D, _, rfl, SqL.of hD2, ?_⟩
      rw [rep_all]
      exact q _ S2
def spIsTable (K : PySem.W.Frag) : Sp := fun vs H Q _ => ∃ (T : Addr) (rs : List (Addr × List Nat)) (N : Nat), vs = [.ref T] ∧ GridAt H T rs N N ∧ rs.length = N ∧ 1 ≤ N ∧ N ≤ 60 ∧ ∀ H', Same H H' → Q (.bl true) H'
theorem k_is_table (D : Df K mg "is_table" s_is_table ["thing"]) (D_are_numbers : Dn P w K mg base 2 "are_numbers" ["thing", "many"] (spAreNums K)) : Dn P w K mg base 3 "is_table" ["thing"] (spIsTable K) := by
  refine D.ok fun f fd F => okG0 F sc_is_table (fun vs H Q E h => ?_) (fun cdv A outer s H vs Q E hr h => ⟨_, (pss_cons (ps_if (PW.pt (pw_or (pt_not (pt_val (pe_callB (kk (K := K) (F := rIsi) (P := CallR _ _) call_isi) (by rfl) B.isinstance_ (by decide +kernel) (pa_cons (pv 0) (pa_cons (pe_bltn (v := .ty "tuple") (u := .type "tuple") (by rfl) B.tuple_ (by decide +kernel) rfl) pa_nil))))) (pw_or1 (pt_not (pt_chain op_le op_le pe_int (pe_callB (lenK (K := K)) (by rfl) B.len_ (by decide +kernel) (pa_cons (pv 0) pa_nil)) (pe_glob (v := .int (60)) (u := .int (60) B.MOST_FAMILY_.choose) (by rfl) B.MOST_FAMILY_.choose_spec ⟨_, rfl⟩))))))
      (pss_one (ps_ret pe_bl))
      pss_nil)
    (pss_one (ps_ret (pe_callB (kk (K := K) (F := rAll) (P := CallR _ _) (cr_all rfl)) (by rfl) B.all_ (by decide +kernel) (pa_cons (pe_lc (own := [("row", 1)]) (g := gName 1) (tt := tYes) rfl sc_is_table.nd (kk (K := K) (F := fun K => iTup K _) (P := PI _ _ _) (pi_tup (pv 0))) (blkOk_by (own := [("row", 1)]) (N := ["thing", "row"]) (sc := defScope s_is_table) (by decide +kernel)) (fun _ _ _ _ _ => (pg_name (i := 1) sc_is_table.nd rfl (Or.inl rfl))) (fun _ _ _ _ _ => pts_nil) (fun _ _ _ _ _ => (pe_and (pe_cD D_are_numbers (hr.less (by decide)) rfl (pa_cons (pv 1) (pa_cons (pe_callB (lenK (K := K)) (by rfl) B.len_ (by decide +kernel) (pa_cons (pv 0) pa_nil)) pa_nil))) (pe_one (pe_cmpR op_eq (pe_callB (lenK (K := K)) (by rfl) B.len_ (by decide +kernel) (pa_cons (pv 1) pa_nil)) (pe_callB (lenK (K := K)) (by rfl) B.len_ (by decide +kernel) (pa_cons (pv 0) pa_nil)) (nomark _)))))) pa_nil))))), ?_⟩)
  · obtain ⟨T, rs, N, rfl, _⟩ := h; rfl
  · obtain ⟨T, rs, N, rfl, g, hl, h1, h60, q⟩ := h
    refine ⟨_, rfl, _, _, _, _, _, rfl, .ty _, .base (.tup g.top), kit_ty (b := "tuple") (r := true) (by decide +kernel), _, rfl, iteF ?_⟩
    refine ⟨_, rfl, T, _, rfl, .inr (SqT.of g.top), ?_⟩
    refine ⟨_, _, rfl, rfl, _, rfl, ifT (decide_eq_true (by rw [List.length_map]; omega)) ⟨_, _, rfl, rfl, _, rfl, ifF (by rw [List.length_map, decide_eq_true (by omega)] <;> rfl) ?_⟩⟩
    refine ⟨_, rfl, T, rfl, ⟨_, SqT.of g.top⟩, fun D hD => ?_⟩
    refine lc_tup (K := K) (a := T) (xs := rs.map fun x => .ref x.1) (fun i H2 => Same H H2 ∧ H2 D = some (.lst ((List.replicate i true).map V.bl))) ⟨same_new hD _, upd_same⟩ (fun i H2 _ h => SqT.of (h.1 _ _ g.top)) ?_ ?_
    · rintro i y H2 hi ⟨S2, hD2⟩
      rw [List.getElem?_map] at hi
      obtain ⟨x, hx, rfl⟩ := Option.map_eq_some_iff.mp hi
      have hil : i < rs.length := (List.getElem?_eq_some_iff.mp hx).1
      obtain ⟨k1, k2, k3⟩ := g.rows x (List.mem_of_getElem? hx)
      refine ⟨rfl, _, rfl, _, rfl, T, _, rfl, .inr (SqT.of (S2 _ _ g.top)), x.1, x.2, N, by rw [List.length_map, hl] <;> rfl, S2 _ _ k1, k3, by omega, fun H3 S3 => ⟨_, rfl, iteT ?_⟩⟩
      refine ⟨_, rfl, x.1, _, rfl, .inr (SqT.of (S3 _ _ (S2 _ _ k1))), _, rfl, T, _, rfl, .inr (SqT.of (S3 _ _ (S2 _ _ g.top))), rfl, ?_⟩
      dsimp only
      rw [iN_len, List.length_map, k2, hl, dec_self]
      exact ⟨_, S3 _ _ hD2, by rw [rep_len]; exact small1000 (by omega), but_same hD (S2.trans S3) But.upd, by rw [upd_same, rep_snoc]⟩
    · rintro H2 ⟨S2, hD2⟩
      refine ⟨D, _, rfl, SqL.of hD2, ?_⟩
      rw [rep_all]
      exact q _ S2
def spWantTable (K : PySem.W.Frag) : Sp := fun vs H Q _ => ∃ (T : Addr) (rs : List (Addr × List Nat)) (N : Nat), vs = [.ref T] ∧ GridAt H T rs N N ∧ rs.length = N ∧ 1 ≤ N ∧ N ≤ 60 ∧ ∀ H', Same H H' → Q .non H'
theorem k_want_table (D : Df K mg "want_table" s_want_table ["table"]) (D_is_table : Dn P w K mg base 3 "is_table" ["thing"] (spIsTable K)) : Dn P w K mg base 4 "want_table" ["table"] (spWantTable K) := by
  refine D.ok fun f fd F => okG0 F sc_want_table (fun vs H Q E h => ?_) (fun cdv A outer s H vs Q E hr h => ⟨_, (pss_one (ps_if (pt_not (pt_val (pe_cD D_is_table (hr.less (by decide)) rfl (pa_cons (pv 0) pa_nil))))
     (pss_one ps_never)
     pss_nil)), ?_⟩)
  · obtain ⟨T, rs, N, rfl, _⟩ := h; rfl
  · obtain ⟨T, rs, N, rfl, h1, h2, h3, h4, q⟩ := h
    exact ⟨_, rfl, T, rs, N, rfl, h1, h2, h3, h4, fun H' S => ⟨_, rfl, iteF (q _ S)⟩⟩
def spIsByTable (K : PySem.W.Frag) : Sp := fun vs H Q _ => ∃ (T : Addr) (xs : List Nat) (N : Nat), vs = [.ref T, .int N] ∧ H T = some (.tup ((iN xs).map V.int)) ∧ Bel xs N ∧ xs.length = N ∧ N ≤ 100 ∧ ∀ H', Same H H' → Q (.bl true) H'
theorem k_is_by_table (D : Df K mg "is_by_table" s_is_by_table ["thing", "states"]) (D_is_whole : Dn P w K mg base 1 "is_whole" ["thing"] spIsWhole) : Dn P w K mg base 2 "is_by_table" ["thing", "states"] (spIsByTable K) := by
  refine D.ok fun f fd F => okG0 F sc_is_by_table (fun vs H Q E h => ?_) (fun cdv A outer s H vs Q E hr h => ⟨_, (pss_cons (ps_if (PW.pt (pw_or (pt_not (pt_val (pe_callB (kk (K := K) (F := rIsi) (P := CallR _ _) call_isi) (by rfl) B.isinstance_ (by decide +kernel) (pa_cons (pv 0) (pa_cons (pe_bltn (v := .ty "tuple") (u := .type "tuple") (by rfl) B.tuple_ (by decide +kernel) rfl) pa_nil))))) (pw_or1 (pt_cmpR op_ne (pe_callB (lenK (K := K)) (by rfl) B.len_ (by decide +kernel) (pa_cons (pv 0) pa_nil)) (pv 1) (nomark _)))))
      (pss_one (ps_ret pe_bl))
      pss_nil)
    (pss_one (ps_ret (pe_callB (kk (K := K) (F := rAll) (P := CallR _ _) (cr_all rfl)) (by rfl) B.all_ (by decide +kernel) (pa_cons (pe_lc (own := [("state", 2)]) (g := gName 2) (tt := tYes) rfl sc_is_by_table.nd (kk (K := K) (F := fun K => iTup K _) (P := PI _ _ _) (pi_tup (pv 0))) (blkOk_by (own := [("state", 2)]) (N := ["thing", "states", "state"]) (sc := defScope s_is_by_table) (by decide +kernel)) (fun _ _ _ _ _ => (pg_name (i := 2) sc_is_by_table.nd rfl (Or.inl rfl))) (fun _ _ _ _ _ => pts_nil) (fun _ _ _ _ _ => (pe_and (pe_cD D_is_whole (hr.less (by decide)) rfl (pa_cons (pv 2) pa_nil)) (pe_one (pe_chain op_le op_lt pe_int (pv 2) (pv 1)))))) pa_nil))))), ?_⟩)
  · obtain ⟨T, xs, N, rfl, _⟩ := h; rfl
  · obtain ⟨T, xs, N, rfl, hT, hb, hl, h100, q⟩ := h
    refine ⟨_, rfl, _, _, _, _, _, rfl, .ty _, .base (.tup hT), kit_ty (b := "tuple") (r := true) (by decide +kernel), _, rfl, iteF ?_⟩
    refine ⟨_, rfl, T, _, rfl, .inr (SqT.of hT), _, rfl, rfl, _, rfl, ifF (dec_ne (by rw [iN_len, hl])) ?_⟩
    refine ⟨_, rfl, T, rfl, ⟨_, SqT.of hT⟩, fun D hD => ?_⟩
    refine lc_tup (K := K) (a := T) (xs := (iN xs).map V.int) (fun i H2 => Same H H2 ∧ H2 D = some (.lst ((List.replicate i true).map V.bl))) ⟨same_new hD _, upd_same⟩ (fun i H2 _ h => SqT.of (h.1 _ _ hT)) ?_ ?_
    · rintro i y H2 hi ⟨S2, hD2⟩
      obtain ⟨n, rfl, hn⟩ := iN_mem hi
      have hil := (List.getElem?_eq_some_iff.mp hn).1
      have hlt := hb n (List.mem_of_getElem? hn)
      refine ⟨rfl, _, rfl, (n : Int), rfl, _, rfl, iteT ?_⟩
      refine ⟨_, rfl, _, _, rfl, rfl, _, rfl, ifT (decide_eq_true (by omega)) ⟨_, rfl, _, _, rfl, rfl, ?_⟩⟩
      dsimp only
      rw [decide_eq_true (show (n : Int) < (N : Int) by omega)]
      exact ⟨_, hD2, by rw [rep_len]; exact small1000 (by omega), but_same hD S2 But.upd, by rw [upd_same, rep_snoc]⟩
    · rintro H2 ⟨S2, hD2⟩
      refine ⟨D, _, rfl, SqL.of hD2, ?_⟩
      rw [rep_all]
      exact q _ S2
def spAreByTable (K : PySem.W.Frag) : Sp := fun vs H Q _ => ∃ (T : Addr) (rs : List (Addr × List Nat)) (S most : Nat), vs = [.ref T, .int most] ∧ GridAt H T rs S S ∧ 1 ≤ rs.length ∧ rs.length ≤ most ∧ most ≤ 60 ∧ 1 ≤ S ∧ S ≤ 5 ∧ ∀ H', Same H H' → Q (.bl true) H'
theorem k_are_by_table (D : Df K mg "are_by_table" s_are_by_table ["thing", "most"]) (D_is_by_table : Dn P w K mg base 2 "is_by_table" ["thing", "states"] (spIsByTable K)) : Dn P w K mg base 3 "are_by_table" ["thing", "most"] (spAreByTable K) := by
  refine D.ok fun f fd F => okG0 F sc_are_by_table (fun vs H Q E h => ?_) (fun cdv A outer s H vs Q E hr h => ⟨_, (pss_cons (ps_if (PW.pt (pw_or (pt_not (pt_val (pe_callB (kk (K := K) (F := rIsi) (P := CallR _ _) call_isi) (by rfl) B.isinstance_ (by decide +kernel) (pa_cons (pv 0) (pa_cons (pe_bltn (v := .ty "tuple") (u := .type "tuple") (by rfl) B.tuple_ (by decide +kernel) rfl) pa_nil))))) (pw_or (pt_not (pt_chain op_le op_le pe_int (pe_callB (lenK (K := K)) (by rfl) B.len_ (by decide +kernel) (pa_cons (pv 0) pa_nil)) (pv 1))) (pw_or1 (pt_not (pt_val (pe_callB (kk (K := K) (F := rIsi) (P := CallR _ _) call_isi) (by rfl) B.isinstance_ (by decide +kernel) (pa_cons (pe_ix (kk (K := K) (F := rIxT) (P := IxR _) ix_tup) (pv 0) pe_int (fun _ _ => rfl)) (pa_cons (pe_bltn (v := .ty "tuple") (u := .type "tuple") (by rfl) B.tuple_ (by decide +kernel) rfl) pa_nil)))))))))
      (pss_one (ps_ret pe_bl))
      pss_nil)
    (pss_cons (ps_set (i := 2) sc_are_by_table.nd rfl (Or.inr rfl) (pe_callB (lenK (K := K)) (by rfl) B.len_ (by decide +kernel) (pa_cons (pe_ix (kk (K := K) (F := rIxT) (P := IxR _) ix_tup) (pv 0) pe_int (fun _ _ => rfl)) pa_nil)))
    (pss_one (ps_ret (pe_and (pe_chain op_le op_le pe_int (pv 2) (pe_glob (v := .int (5)) (u := .int (5) B.MOST_STATES_.choose) (by rfl) B.MOST_STATES_.choose_spec ⟨_, rfl⟩)) (pe_one (pe_callB (kk (K := K) (F := rAll) (P := CallR _ _) (cr_all rfl)) (by rfl) B.all_ (by decide +kernel) (pa_cons (pe_lc (own := [("deed", 3)]) (g := gName 3) (tt := tYes) rfl sc_are_by_table.nd (kk (K := K) (F := fun K => iTup K _) (P := PI _ _ _) (pi_tup (pv 0))) (blkOk_by (own := [("deed", 3)]) (N := ["thing", "most", "states", "deed"]) (sc := defScope s_are_by_table) (by decide +kernel)) (fun _ _ _ _ _ => (pg_name (i := 3) sc_are_by_table.nd rfl (Or.inl rfl))) (fun _ _ _ _ _ => pts_nil) (fun _ _ _ _ _ => (pe_cD D_is_by_table (hr.less (by decide)) rfl (pa_cons (pv 3) (pa_cons (pv 2) pa_nil))))) pa_nil)))))))), ?_⟩)
  · obtain ⟨T, rs, S, most, rfl, _⟩ := h; rfl
  · obtain ⟨T, rs, S, most, rfl, g, h1, hm, h60, s1, s5, q⟩ := h
    obtain ⟨k1, k2, k3⟩ := g.rows rs[0] (List.getElem_mem (by omega))
    refine ⟨_, rfl, _, _, _, _, _, rfl, .ty _, .base (.tup g.top), kit_ty (b := "tuple") (r := true) (by decide +kernel), _, rfl, iteF ?_⟩
    refine ⟨_, rfl, T, _, rfl, .inr (SqT.of g.top), ?_⟩
    refine ⟨_, _, rfl, rfl, _, rfl, ifT (decide_eq_true (by rw [List.length_map]; omega)) ⟨_, rfl, _, _, rfl, rfl, _, rfl, ifF (by rw [List.length_map, decide_eq_true (by omega)] <;> rfl) ?_⟩⟩
    refine ⟨_, rfl, T, _, _, _, rfl, rfl, SqT.of g.top, at_of (j := 0) rfl (refs_at (by omega)), _, _, _, _, _, rfl, .ty _, .base (.tup k1), kit_ty (b := "tuple") (r := true) (by decide +kernel), _, rfl, iteF ?_⟩
    refine ⟨_, rfl, T, _, _, _, rfl, rfl, SqT.of g.top, at_of (j := 0) rfl (refs_at (by omega)), rs[0].1, _, rfl, .inr (SqT.of k1), ?_⟩
    refine ⟨_, rfl, _, _, rfl, rfl, _, rfl, ifT (decide_eq_true (by rw [iN_len]; omega)) ⟨_, _, rfl, rfl, _, rfl, ifT (decide_eq_true (by rw [iN_len]; omega)) ?_⟩⟩
    refine ⟨_, rfl, T, rfl, ⟨_, SqT.of g.top⟩, fun D hD => ?_⟩
    refine lc_tup (K := K) (a := T) (xs := rs.map fun x => .ref x.1) (fun i H2 => Same H H2 ∧ H2 D = some (.lst ((List.replicate i true).map V.bl))) ⟨same_new hD _, upd_same⟩ (fun i H2 _ h => SqT.of (h.1 _ _ g.top)) ?_ ?_
    · rintro i y H2 hi ⟨S2, hD2⟩
      rw [List.getElem?_map] at hi
      obtain ⟨x, hx, rfl⟩ := Option.map_eq_some_iff.mp hi
      have hil : i < rs.length := (List.getElem?_eq_some_iff.mp hx).1
      obtain ⟨j1, j2, j3⟩ := g.rows x (List.mem_of_getElem? hx)
      refine ⟨rfl, _, rfl, _, rfl, x.1, x.2, S, by rw [iN_len, k2] <;> rfl, S2 _ _ j1, j3, j2, by omega, fun H3 S3 => ?_⟩
      exact ⟨_, S3 _ _ hD2, by rw [rep_len]; exact small1000 (by omega), but_same hD (S2.trans S3) But.upd, by rw [upd_same, rep_snoc]⟩
    · rintro H2 ⟨S2, hD2⟩
      refine ⟨D, _, rfl, SqL.of hD2, ?_⟩
      rw [rep_all]
      exact q _ S2
def spWantBy (K : PySem.W.Frag) : Sp := fun vs H Q _ => ∃ (D T : Addr) (qs rs : List (Addr × List Nat)) (N S : Nat), vs = [.ref D, .ref T] ∧ GridAt H T rs N N ∧ rs.length = N ∧ 1 ≤ N ∧ N ≤ 60 ∧ GridAt H D qs S S ∧ qs.length = N ∧ 1 ≤ S ∧ S ≤ 5 ∧ ∀ H', Same H H' → Q .non H'
theorem k_want_by_table (D : Df K mg "want_by_table" s_want_by_table ["deeds", "table"]) (D_want_table : Dn P w K mg base 4 "want_table" ["table"] (spWantTable K)) (D_are_by_table : Dn P w K mg base 3 "are_by_table" ["thing", "most"] (spAreByTable K)) : Dn P w K mg base 5 "want_by_table" ["deeds", "table"] (spWantBy K) := by
  refine D.ok fun f fd F => okG0 F sc_want_by_table (fun vs H Q E h => ?_) (fun cdv A outer s H vs Q E hr h => ⟨_, (pss_cons (ps_expr (pe_cD D_want_table (hr.less (by decide)) rfl (pa_cons (pv 1) pa_nil)))
    (pss_one (ps_if (PW.pt (pw_or (pt_not (pt_val (pe_cD D_are_by_table (hr.less (by decide)) rfl (pa_cons (pv 0) (pa_cons (pe_glob (v := .int (60)) (u := .int (60) B.MOST_FAMILY_.choose) (by rfl) B.MOST_FAMILY_.choose_spec ⟨_, rfl⟩) pa_nil))))) (pw_or1 (pt_cmpR op_ne (pe_callB (lenK (K := K)) (by rfl) B.len_ (by decide +kernel) (pa_cons (pv 0) pa_nil)) (pe_callB (lenK (K := K)) (by rfl) B.len_ (by decide +kernel) (pa_cons (pv 1) pa_nil)) (nomark _)))))
     (pss_one ps_never)
     pss_nil))), ?_⟩)
  · obtain ⟨D, T, qs, rs, N, S, rfl, _⟩ := h; rfl
  · obtain ⟨D, T, qs, rs, N, S, rfl, g, h1, h2, h3, g2, h4, h5, h6, q⟩ := h
    refine ⟨_, rfl, T, rs, N, rfl, g, h1, h2, h3, fun H1 S1 => ?_⟩
    refine ⟨_, rfl, D, qs, S, 60, rfl, g2.same S1, by omega, by omega, by decide, h5, h6, fun H2 S2 => ⟨_, rfl, iteF ?_⟩⟩
    have S12 := S1.trans S2
    exact ⟨_, rfl, D, _, rfl, .inr (SqT.of (S12 _ _ g2.top)), _, rfl, T, _, rfl, .inr (SqT.of (S12 _ _ g.top)), rfl, _, rfl, ifF (dec_ne (by rw [List.length_map, List.length_map, h1, h4])) (q _ S12)⟩
def spWantNums (K : PySem.W.Frag) : Sp := fun vs H Q _ => ∃ (T U : Addr) (rs : List (Addr × List Nat)) (N : Nat) (ns : List Nat), vs = [.ref T, .ref U] ∧ GridAt H T rs N N ∧ rs.length = N ∧ H U = some (.tup ((iN ns).map V.int)) ∧ Bel ns N ∧ 1 ≤ ns.length ∧ ns.length ≤ 40 ∧ ∀ H', Same H H' → Q .non H'
theorem k_want_numbers (D : Df K mg "want_numbers" s_want_numbers ["table", "numbers"]) (D_are_numbers : Dn P w K mg base 2 "are_numbers" ["thing", "many"] (spAreNums K)) : Dn P w K mg base 3 "want_numbers" ["table", "numbers"] (spWantNums K) := by
  refine D.ok fun f fd F => okG0 F sc_want_numbers (fun vs H Q E h => ?_) (fun cdv A outer s H vs Q E hr h => ⟨_, (pss_one (ps_if (PW.pt (pw_or (pt_not (pt_val (pe_cD D_are_numbers (hr.less (by decide)) rfl (pa_cons (pv 1) (pa_cons (pe_callB (lenK (K := K)) (by rfl) B.len_ (by decide +kernel) (pa_cons (pv 0) pa_nil)) pa_nil))))) (pw_or1 (pt_not (pt_chain op_le op_le pe_int (pe_callB (lenK (K := K)) (by rfl) B.len_ (by decide +kernel) (pa_cons (pv 1) pa_nil)) (pe_glob (v := .int (40)) (u := .int (40) B.MOST_NUMBERS_.choose) (by rfl) B.MOST_NUMBERS_.choose_spec ⟨_, rfl⟩))))))
     (pss_one ps_never)
     pss_nil)), ?_⟩)
  · obtain ⟨T, U, rs, N, ns, rfl, _⟩ := h; rfl
  · obtain ⟨T, U, rs, N, ns, rfl, g, hl, hU, hb, h1, h40, q⟩ := h
    refine ⟨_, rfl, _, rfl, T, _, rfl, .inr (SqT.of g.top), U, ns, N, by rw [List.length_map, hl] <;> rfl, hU, hb, by omega, fun H1 S1 => ⟨_, rfl, iteF ?_⟩⟩
    refine ⟨_, rfl, U, _, rfl, .inr (SqT.of (S1 _ _ hU)), ?_⟩
    exact ⟨_, _, rfl, rfl, _, rfl, ifT (decide_eq_true (by rw [iN_len]; omega)) ⟨_, _, rfl, rfl, _, rfl, ifF (by rw [iN_len, decide_eq_true (by omega)] <;> rfl) (q _ S1)⟩⟩
def spGrouped (K : PySem.W.Frag) : Sp := fun vs H Q _ => ∃ (U : Addr) (ns : List Nat) (v : V) (t : Tr), vs = [.ref U, v] ∧ H U = some (.tup ((iN ns).map V.int)) ∧ TrAt H v t ∧ IsRow t 0 ∧ t.cnt = ns.length ∧ ns.length ≤ 40 ∧ ∀ H', Same H H' → Q .non H'
theorem k_want_grouped (D : Df K mg "want_grouped" s_want_grouped ["numbers", "tree"]) (D_is_tree : Dn P w K mg base 5 "is_tree" ["thing", "many"] spIsTree) : Dn P w K mg base 6 "want_grouped" ["numbers", "tree"] (spGrouped K) := by
  refine D.ok fun f fd F => okG0 F sc_want_grouped (fun vs H Q E h => ?_) (fun cdv A outer s H vs Q E hr h => ⟨_, (pss_one (ps_if (pt_not (pt_val (pe_cD D_is_tree (hr.less (by decide)) rfl (pa_cons (pv 1) (pa_cons (pe_callB (lenK (K := K)) (by rfl) B.len_ (by decide +kernel) (pa_cons (pv 0) pa_nil)) pa_nil)))))
     (pss_one ps_never)
     pss_nil)), ?_⟩)
  · obtain ⟨U, ns, v, t, rfl, _⟩ := h; rfl
  · obtain ⟨U, ns, v, t, rfl, hU, ht, hr, hc, h40, q⟩ := h
    exact ⟨_, rfl, _, rfl, U, _, rfl, .inr (SqT.of hU), v, t, ns.length, by rw [iN_len] <;> rfl, ht, hr, hc, h40, fun H' S => ⟨_, rfl, iteF (q _ S)⟩⟩
def spFold6 (K : PySem.W.Frag) (n : Nat) : Sp := fun vs H Q _ => ∃ (T U : Addr) (rs : List (Addr × List Nat)) (N : Nat) (ns : List Nat) (v : V) (t : Tr) (f : Nat), vs = [.ref T, .ref U, v] ∧ GridAt H T rs N N ∧ rs.length = N ∧ H U = some (.tup ((iN ns).map V.int)) ∧ Bel ns N ∧ TrAt H v t ∧ IsRow t f ∧ f + t.cnt ≤ ns.length ∧ t.h ≤ n ∧ Q (.int ((fv (gr rs) ns t : Nat) : Int)) H
theorem fold_z (vs : List V) (H : Hp) (Q : VK) (E : XK) : ¬ spFold6 K 0 vs H Q E := by
  rintro ⟨T, U, rs, N, ns, v, t, f, _, _, _, _, _, _, _, _, h2, _⟩
  have := t.h_pos
  omega
theorem k_fold_rec (D : Df K mg "fold" s_fold ["table", "numbers", "tree"]) : ∀ n : Nat, Dn P w K mg base (1 + n) "fold" ["table", "numbers", "tree"] ((spFold6 K) n) := by
  intro n
  induction n with
  | zero => exact D.ok fun f fd F => ⟨fun vs H Q E h => (fold_z B vs H Q E h).elim, fun _ _ _ _ h => (fold_z B _ _ _ _ h).elim⟩
  | succ n D_fold =>
    refine D.ok fun f fd F => okG0 (k := 1 + n) F sc_fold (fun vs H Q E h => ?_) (fun cdv A outer s H vs Q E hr h => ⟨_, (pss_cons (ps_if (pt_not (pt_val (pe_callB (kk (K := K) (F := rIsi) (P := CallR _ _) call_isi) (by rfl) B.isinstance_ (by decide +kernel) (pa_cons (pv 2) (pa_cons (pe_bltn (v := .ty "tuple") (u := .type "tuple") (by rfl) B.tuple_ (by decide +kernel) rfl) pa_nil)))))
      (pss_one (ps_ret (pe_ix (kk (K := K) (F := rIxT) (P := IxR _) ix_tup) (pv 1) (pv 2) (fun _ _ => rfl))))
      pss_nil)
    (pss_one (ps_ret (pe_ix (kk (K := K) (F := rIxT) (P := IxR _) ix_tup) (pe_ix (kk (K := K) (F := rIxT) (P := IxR _) ix_tup) (pv 0) (pe_cD D_fold (hr.less (by omega)) rfl (pa_cons (pv 0) (pa_cons (pv 1) (pa_cons (pe_ix (kk (K := K) (F := rIxT) (P := IxR _) ix_tup) (pv 2) pe_int (fun _ _ => rfl)) pa_nil)))) (fun _ _ => rfl)) (pe_cD D_fold (hr.less (by omega)) rfl (pa_cons (pv 0) (pa_cons (pv 1) (pa_cons (pe_ix (kk (K := K) (F := rIxT) (P := IxR _) ix_tup) (pv 2) pe_int (fun _ _ => rfl)) pa_nil)))) (fun _ _ => rfl))))), ?_⟩)
    · obtain ⟨T, U, rs, N, ns, v, t, f, rfl, _⟩ := h; rfl
    · obtain ⟨T, U, rs, N, ns, v, t, f, rfl, g, hl, hU, hb, ht, hr, hc, hn, q⟩ := h
      cases t with
      | leaf m =>
        cases (show v = V.int m from ht)
        have e : m = f := hr
        subst e
        have hm : m < ns.length := hc
        refine ⟨_, rfl, _, _, _, _, _, rfl, .ty _, .base (.int _), kit_ty (b := "tuple") (r := false) (by decide +kernel), _, rfl, iteT ?_⟩
        exact ⟨_, rfl, _, rfl, U, _, _, _, rfl, rfl, SqT.of hU, at_of (j := m) rfl (iN_at (getD_at hm)), q⟩
      | node l r =>
        obtain ⟨a, x, y, hv, ha, hx, hy⟩ := ht
        cases (show v = V.ref a from hv)
        obtain ⟨i1, i2⟩ := hr
        have hn' : max l.h r.h + 1 ≤ n + 1 := hn
        have hc' : f + (l.cnt + r.cnt) ≤ ns.length := hc
        have f1 := fv_lt g hl hb i1 (by omega)
        have f2 := fv_lt g hl hb i2 (by omega)
        have f1' : fv (gr rs) ns l < rs.length := by omega
        obtain ⟨k1, k2, k3⟩ := g.rows _ (List.getElem_mem f1')
        refine ⟨_, rfl, _, _, _, _, _, rfl, .ty _, .base (.tup ha), kit_ty (b := "tuple") (r := true) (by decide +kernel), _, rfl, iteF ?_⟩
        refine ⟨_, rfl, _, rfl, _, rfl, _, rfl, a, _, _, _, rfl, rfl, SqT.of ha, at_of (j := 0) rfl rfl, T, U, rs, N, ns, x, l, f, rfl, g, hl, hU, hb, hx, i1, by omega, by omega, T, _, _, _, rfl, rfl, SqT.of g.top, at_of (j := fv (gr rs) ns l) rfl (refs_at f1'), ?_⟩
        refine ⟨_, rfl, _, rfl, _, rfl, a, _, _, _, rfl, rfl, SqT.of ha, at_of (j := 1) rfl rfl, T, U, rs, N, ns, y, r, f + l.cnt, rfl, g, hl, hU, hb, hy, i2, by omega, by omega, ?_⟩
        refine ⟨_, _, _, _, rfl, rfl, SqT.of k1, at_of (j := fv (gr rs) ns r) rfl (iN_at (getD_at (by omega))), ?_⟩
        refine qi q ?_
        show (((((gr rs).getD (fv (gr rs) ns l) []).getD (fv (gr rs) ns r) 0 : Nat)) : Int) = _
        rw [gr_at f1']
theorem k_fold (D : Df K mg "fold" s_fold ["table", "numbers", "tree"]) : Dn P w K mg base 41 "fold" ["table", "numbers", "tree"] ((spFold6 K) 40) := k_fold_rec B D  40
def spShare6 (K : PySem.W.Frag) (n : Nat) : Sp := fun vs H Q _ => ∃ (D T U : Addr) (qs rs : List (Addr × List Nat)) (N S : Nat) (ns : List Nat) (v : V) (t : Tr) (f s : Nat), vs = [.ref D, .ref T, .ref U, v, .int s] ∧ GridAt H T rs N N ∧ rs.length = N ∧ GridAt H D qs S S ∧ qs.length = N ∧ H U = some (.tup ((iN ns).map V.int)) ∧ Bel ns N ∧ TrAt H v t ∧ IsRow t f ∧ f + t.cnt ≤ ns.length ∧ ns.length ≤ 40 ∧ t.h ≤ n ∧ n ≤ 40 ∧ s < S ∧ ∀ L H', Same H H' → H' L = some (.lst ((iN (sv (gr qs) (gr rs) ns t s)).map V.int)) → Q (.ref L) H'
theorem share_z (vs : List V) (H : Hp) (Q : VK) (E : XK) : ¬ spShare6 K 0 vs H Q E := by
  rintro ⟨D, T, U, qs, rs, N, S, ns, v, t, f, s, _, _, _, _, _, _, _, _, _, _, _, h2, _⟩
  have := t.h_pos
  omega
theorem k_share_rec (D : Df K mg "share" s_share ["deeds", "table", "numbers", "tree", "state"]) (D_fold : Dn P w K mg base 41 "fold" ["table", "numbers", "tree"] ((spFold6 K) 40)) : ∀ n : Nat, Dn P w K mg base (42 + n) "share" ["deeds", "table", "numbers", "tree", "state"] ((spShare6 K) n) := by
  intro n
  induction n with
  | zero => exact D.ok fun f fd F => ⟨fun vs H Q E h => (share_z B vs H Q E h).elim, fun _ _ _ _ h => (share_z B _ _ _ _ h).elim⟩
  | succ n D_share =>
    refine D.ok fun f fd F => okG0 (k := 42 + n) F sc_share (fun vs H Q E h => ?_) (fun cdv A outer s H vs Q E hr h => ⟨_, (pss_cons (ps_if (pt_not (pt_val (pe_callB (kk (K := K) (F := rIsi) (P := CallR _ _) call_isi) (by rfl) B.isinstance_ (by decide +kernel) (pa_cons (pv 3) (pa_cons (pe_bltn (v := .ty "tuple") (u := .type "tuple") (by rfl) B.tuple_ (by decide +kernel) rfl) pa_nil)))))
      (pss_one (ps_ret (pe_lst (pa_cons (pv 4) pa_nil))))
      pss_nil)
    (pss_cons (ps_set (i := 5) sc_share.nd rfl (Or.inl rfl) (pe_ix (kk (K := K) (F := rIxT) (P := IxR _) ix_tup) (pe_ix (kk (K := K) (F := rIxT) (P := IxR _) ix_tup) (pv 0) (pe_cD D_fold (hr.less (by omega)) rfl (pa_cons (pv 1) (pa_cons (pv 2) (pa_cons (pe_ix (kk (K := K) (F := rIxT) (P := IxR _) ix_tup) (pv 3) pe_int (fun _ _ => rfl)) pa_nil)))) (fun _ _ => rfl)) (pv 4) (fun _ _ => rfl)))
    (pss_cons (ps_set (i := 6) sc_share.nd rfl (Or.inl rfl) (pe_cD D_share (hr.less (by omega)) rfl (pa_cons (pv 0) (pa_cons (pv 1) (pa_cons (pv 2) (pa_cons (pe_ix (kk (K := K) (F := rIxT) (P := IxR _) ix_tup) (pv 3) pe_int (fun _ _ => rfl)) (pa_cons (pv 4) pa_nil)))))))
    (pss_one (ps_ret (pe_op op_cat (pv 6) (pe_cD D_share (hr.less (by omega)) rfl (pa_cons (pv 0) (pa_cons (pv 1) (pa_cons (pv 2) (pa_cons (pe_ix (kk (K := K) (F := rIxT) (P := IxR _) ix_tup) (pv 3) pe_int (fun _ _ => rfl)) (pa_cons (pv 5) pa_nil)))))))))))), ?_⟩)
    · obtain ⟨D, T, U, qs, rs, N, S, ns, v, t, f, s, rfl, _⟩ := h; rfl
    · obtain ⟨D, T, U, qs, rs, N, S, ns, v, t, f, s, rfl, g, hl, g2, hl2, hU, hb, ht, hr, hc, h40, hn, hn40, hs, q⟩ := h
      cases t with
      | leaf m =>
        cases (show v = V.int m from ht)
        refine ⟨_, rfl, _, _, _, _, _, rfl, .ty _, .base (.int _), kit_ty (b := "tuple") (r := false) (by decide +kernel), _, rfl, iteT ?_⟩
        exact ⟨_, rfl, sz, fun L hL => q L _ (same_new hL _) upd_same⟩
      | node l r =>
        obtain ⟨a, x, y, hv, ha, hx, hy⟩ := ht
        cases (show v = V.ref a from hv)
        obtain ⟨i1, i2⟩ := hr
        have hn' : max l.h r.h + 1 ≤ n + 1 := hn
        have hc' : f + (l.cnt + r.cnt) ≤ ns.length := hc
        have f1 := fv_lt g hl hb i1 (by omega)
        have f1' : fv (gr rs) ns l < qs.length := by omega
        obtain ⟨k1, k2, k3⟩ := g2.rows _ (List.getElem_mem f1')
        have f3 := k3 _ (getD_mem (j := s) (by omega))
        refine ⟨_, rfl, _, _, _, _, _, rfl, .ty _, .base (.tup ha), kit_ty (b := "tuple") (r := true) (by decide +kernel), _, rfl, iteF ?_⟩
        refine ⟨_, rfl, _, rfl, _, rfl, _, rfl, a, _, _, _, rfl, rfl, SqT.of ha, at_of (j := 0) rfl rfl, T, U, rs, N, ns, x, l, f, rfl, g, hl, hU, hb, hx, i1, by omega, by omega, D, _, _, _, rfl, rfl, SqT.of g2.top, at_of (j := fv (gr rs) ns l) rfl (refs_at f1'), ?_⟩
        refine ⟨_, rfl, _, _, _, _, rfl, rfl, SqT.of k1, at_of (j := s) rfl (iN_at (getD_at (by omega))), ?_⟩
        refine ⟨_, rfl, _, rfl, _, rfl, _, rfl, a, _, _, _, rfl, rfl, SqT.of ha, at_of (j := 0) rfl rfl, _, rfl, D, T, U, qs, rs, N, S, ns, x, l, f, s, rfl, g, hl, g2, hl2, hU, hb, hx, i1, by omega, h40, by omega, by omega, hs, fun L1 H1 S1 hL1 => ?_⟩
        refine ⟨_, rfl, _, rfl, _, rfl, _, rfl, _, rfl, a, _, _, _, rfl, rfl, SqT.of (S1 _ _ ha), at_of (j := 1) rfl rfl, _, rfl, D, T, U, qs, rs, N, S, ns, y, r, f + l.cnt, _, rfl, g.same S1, hl, g2.same S1, hl2, S1 _ _ hU, hb, hy.same S1, i2, by omega, h40, by omega, by omega, f3, fun L2 H2 S2 hL2 => ?_⟩
        refine ⟨L1, L2, _, _, rfl, rfl, S2 _ _ hL1, hL2, small (by rw [iN_len, iN_len, sv_len, sv_len]; omega), fun M hM => q M _ (S1.trans (S2.trans (same_new hM _))) ?_⟩
        rw [upd_same, iN_app]
        show _ = some (HO.lst ((iN (sv (gr qs) (gr rs) ns l s ++ sv (gr qs) (gr rs) ns r (((gr qs).getD (fv (gr rs) ns l) []).getD s 0))).map V.int))
        rw [gr_at f1']
theorem k_share (D : Df K mg "share" s_share ["deeds", "table", "numbers", "tree", "state"]) (D_fold : Dn P w K mg base 41 "fold" ["table", "numbers", "tree"] ((spFold6 K) 40)) : Dn P w K mg base 82 "share" ["deeds", "table", "numbers", "tree", "state"] ((spShare6 K) 40) := k_share_rec B D D_fold 40
def spFoldBy (K : PySem.W.Frag) : Sp := fun vs H Q _ => ∃ (T U : Addr) (rs : List (Addr × List Nat)) (N : Nat) (ns : List Nat) (v : V) (t : Tr), vs = [.ref T, .ref U, v] ∧ GridAt H T rs N N ∧ rs.length = N ∧ 1 ≤ N ∧ N ≤ 60 ∧ H U = some (.tup ((iN ns).map V.int)) ∧ Bel ns N ∧ 1 ≤ ns.length ∧ ns.length ≤ 40 ∧ TrAt H v t ∧ IsRow t 0 ∧ t.cnt = ns.length ∧ ∀ H', Same H H' → Q (.int ((fv (gr rs) ns t : Nat) : Int)) H'
theorem k_folded_by (D : Df K mg "folded_by" s_folded_by ["table", "numbers", "tree"]) (D_want_table : Dn P w K mg base 4 "want_table" ["table"] (spWantTable K)) (D_want_numbers : Dn P w K mg base 3 "want_numbers" ["table", "numbers"] (spWantNums K)) (D_want_grouped : Dn P w K mg base 6 "want_grouped" ["numbers", "tree"] (spGrouped K)) (D_fold : Dn P w K mg base 41 "fold" ["table", "numbers", "tree"] ((spFold6 K) 40)) : Dn P w K mg base 47 "folded_by" ["table", "numbers", "tree"] (spFoldBy K) := by
  refine D.ok fun f fd F => okG0 F sc_folded_by (fun vs H Q E h => ?_) (fun cdv A outer s H vs Q E hr h => ⟨_, (pss_cons (ps_expr (pe_cD D_want_table (hr.less (by decide)) rfl (pa_cons (pv 0) pa_nil)))
    (pss_cons (ps_expr (pe_cD D_want_numbers (hr.less (by decide)) rfl (pa_cons (pv 0) (pa_cons (pv 1) pa_nil))))
    (pss_cons (ps_expr (pe_cD D_want_grouped (hr.less (by decide)) rfl (pa_cons (pv 1) (pa_cons (pv 2) pa_nil))))
    (pss_one (ps_ret (pe_cD D_fold (hr.less (by decide)) rfl (pa_cons (pv 0) (pa_cons (pv 1) (pa_cons (pv 2) pa_nil))))))))), ?_⟩)
  · obtain ⟨T, U, rs, N, ns, v, t, rfl, _⟩ := h; rfl
  · obtain ⟨T, U, rs, N, ns, v, t, rfl, g, hl, h1, h60, hU, hb, n1, n40, ht, hr, hc, q⟩ := h
    refine ⟨_, rfl, T, rs, N, rfl, g, hl, h1, h60, fun H1 S1 => ?_⟩
    refine ⟨_, rfl, _, rfl, T, U, rs, N, ns, rfl, g.same S1, hl, S1 _ _ hU, hb, n1, n40, fun H2 S2 => ?_⟩
    have S12 := S1.trans S2
    refine ⟨_, rfl, _, rfl, U, ns, v, t, rfl, S12 _ _ hU, ht.same S12, hr, hc, n40, fun H3 S3 => ?_⟩
    have S13 := S12.trans S3
    exact ⟨_, rfl, _, rfl, _, rfl, T, U, rs, N, ns, v, t, 0, rfl, g.same S13, hl, S13 _ _ hU, hb, ht.same S13, hr, by omega, Nat.le_trans t.h_cnt (by omega), q _ S13⟩
def spShareBy (K : PySem.W.Frag) : Sp := fun vs H Q _ => ∃ (D T U : Addr) (qs rs : List (Addr × List Nat)) (N S : Nat) (ns : List Nat) (v : V) (t : Tr) (s : Nat), vs = [.ref D, .ref T, .ref U, v, .int s] ∧ GridAt H T rs N N ∧ rs.length = N ∧ 1 ≤ N ∧ N ≤ 60 ∧ GridAt H D qs S S ∧ qs.length = N ∧ 1 ≤ S ∧ S ≤ 5 ∧ H U = some (.tup ((iN ns).map V.int)) ∧ Bel ns N ∧ 1 ≤ ns.length ∧ ns.length ≤ 40 ∧ TrAt H v t ∧ IsRow t 0 ∧ t.cnt = ns.length ∧ s < S ∧ ∀ L H', Same H H' → H' L = some (.tup ((iN (sv (gr qs) (gr rs) ns t s)).map V.int)) → Q (.ref L) H'
theorem k_shared_by (D : Df K mg "shared_by" s_shared_by ["deeds", "table", "numbers", "tree", "state"]) (D_want_by_table : Dn P w K mg base 5 "want_by_table" ["deeds", "table"] (spWantBy K)) (D_want_numbers : Dn P w K mg base 3 "want_numbers" ["table", "numbers"] (spWantNums K)) (D_are_numbers : Dn P w K mg base 2 "are_numbers" ["thing", "many"] (spAreNums K)) (D_want_grouped : Dn P w K mg base 6 "want_grouped" ["numbers", "tree"] (spGrouped K)) (D_share : Dn P w K mg base 82 "share" ["deeds", "table", "numbers", "tree", "state"] ((spShare6 K) 40)) : Dn P w K mg base 84 "shared_by" ["deeds", "table", "numbers", "tree", "state"] (spShareBy K) := by
  refine D.ok fun f fd F => okG0 F sc_shared_by (fun vs H Q E h => ?_) (fun cdv A outer s H vs Q E hr h => ⟨_, (pss_cons (ps_expr (pe_cD D_want_by_table (hr.less (by decide)) rfl (pa_cons (pv 0) (pa_cons (pv 1) pa_nil))))
    (pss_cons (ps_expr (pe_cD D_want_numbers (hr.less (by decide)) rfl (pa_cons (pv 1) (pa_cons (pv 2) pa_nil))))
    (pss_cons (ps_if (pt_not (pt_val (pe_cD D_are_numbers (hr.less (by decide)) rfl (pa_cons (pe_tup (pa_cons (pv 4) pa_nil)) (pa_cons (pe_callB (lenK (K := K)) (by rfl) B.len_ (by decide +kernel) (pa_cons (pe_ix (kk (K := K) (F := rIxT) (P := IxR _) ix_tup) (pv 0) pe_int (fun _ _ => rfl)) pa_nil)) pa_nil)))))
      (pss_one ps_never)
      pss_nil)
    (pss_cons (ps_expr (pe_cD D_want_grouped (hr.less (by decide)) rfl (pa_cons (pv 2) (pa_cons (pv 3) pa_nil))))
    (pss_one (ps_ret (pe_callTy (tupOfK (K := K)) (by rfl) B.tuple_ (by decide +kernel) (pa_cons (pe_cD D_share (hr.less (by decide)) rfl (pa_cons (pv 0) (pa_cons (pv 1) (pa_cons (pv 2) (pa_cons (pv 3) (pa_cons (pv 4) pa_nil)))))) pa_nil)))))))), ?_⟩)
  · obtain ⟨D, T, U, qs, rs, N, S, ns, v, t, s, rfl, _⟩ := h; rfl
  · obtain ⟨D, T, U, qs, rs, N, S, ns, v, t, s, rfl, g, hl, h1, h60, g2, hl2, s1, s5, hU, hb, n1, n40, ht, hr, hc, hs, q⟩ := h
    refine ⟨_, rfl, _, rfl, D, T, qs, rs, N, S, rfl, g, hl, h1, h60, g2, hl2, s1, s5, fun H1 S1 => ?_⟩
    refine ⟨_, rfl, _, rfl, T, U, rs, N, ns, rfl, g.same S1, hl, S1 _ _ hU, hb, n1, n40, fun H2 S2 => ?_⟩
    have S12 := S1.trans S2
    obtain ⟨k1, k2, k3⟩ := g2.rows qs[0] (List.getElem_mem (by omega))
    refine ⟨_, rfl, sz, fun z hz => ?_⟩
    have S3 := same_new hz (.tup [.int (s : Nat)])
    have S13 := S12.trans S3
    refine ⟨_, rfl, D, _, _, _, rfl, rfl, SqT.of (S13 _ _ g2.top), at_of (j := 0) rfl (refs_at (by omega)), qs[0].1, _, rfl, .inr (SqT.of (S13 _ _ k1)), z, [s], S, by rw [iN_len, k2] <;> rfl, upd_same, fun x hx => ?_, (by show 1 ≤ 100; decide), fun H4 S4 => ⟨_, rfl, iteF ?_⟩⟩
    · cases List.mem_singleton.mp hx; exact hs
    have S14 := S13.trans S4
    refine ⟨_, rfl, _, rfl, U, ns, v, t, rfl, S14 _ _ hU, ht.same S14, hr, hc, n40, fun H5 S5 => ?_⟩
    have S15 := S14.trans S5
    refine ⟨_, rfl, _, rfl, _, rfl, _, rfl, _, rfl, D, T, U, qs, rs, N, S, ns, v, t, 0, s, rfl, g.same S15, hl, g2.same S15, hl2, S15 _ _ hU, hb, ht.same S15, hr, by omega, n40, Nat.le_trans t.h_cnt (by omega), by decide, hs, fun L H6 S6 hL => ?_⟩
    exact ⟨L, _, rfl, .inl ⟨SqL.of hL, fun M hM => q M _ (S15.trans (S6.trans (same_new hM _))) upd_same⟩⟩
/-! ### the law's own -/
def spPot6 (K : PySem.W.Frag) : Sp := fun vs H Q _ => ∃ (a : Addr) (ns : List Int) (k : Nat), vs = [.ref a, .int k] ∧ SqL K H a (ns.map V.int) ∧ k ≤ 60 ∧ ∀ p H', H p = none → Same H H' → PotAt H' p → Q (.ref p) H'
theorem k__law_store (D : Df K mg "_law_store" s__law_store ["_law_script", "_law_k"]) : Dn P w K mg base 1 "_law_store" ["_law_script", "_law_k"] (spPot6 K) := by
  refine D.ok fun f fd F => okG0 F sc__law_store (fun vs H Q E h => ?_) (fun cdv A outer s H vs Q E hr h => ⟨_, (pss_cons (ps_set (i := 2) sc__law_store.nd rfl (Or.inl rfl) pe_int)
    (C8.pss_cut (ps_if (pt_cmpR op_lt (pv 1) (pe_callB (lenK (K := K)) (by rfl) B.len_ (by decide +kernel) (pa_cons (pv 0) pa_nil)) (nomark _))
      (pss_one (ps_set (i := 2) sc__law_store.nd rfl (Or.inl rfl) (pe_callB call_abs (by rfl) B.abs_ (by decide +kernel) (pa_cons (pe_ix (kk (K := K) (F := rIxL) (P := IxR _) ix_list) (pv 0) (pv 1) (fun _ _ => rfl)) pa_nil))))
      pss_nil)
    (pss_one (ps_ret (pe_lst (pa_cons (pe_callB (call_max2 rfl) (by rfl) B.max_ (by decide +kernel) (pa_cons pe_int (pa_cons (pe_op op_sub (pv 2) (pe_op op_pow pe_int pe_int)) pa_nil))) (pa_cons (pe_op op_mod (pe_op op_pow (pe_op op_add (pe_op op_add (pe_op op_mod (pv 2) pe_int) (pe_op op_mulX pe_int (pv 1))) pe_int) pe_int) pe_int) pa_nil))))))), ?_⟩)
  · obtain ⟨a, ns, k, rfl, _⟩ := h; rfl
  · obtain ⟨a, ns, k, rfl, hs, hk, q⟩ := h
    refine ⟨fun σ H1 => ∃ c : Int, σ = [some (.ref a), some (.int k), some (.int c)] ∧ H1 = H, ?_, ?_⟩
    · refine ⟨_, rfl, _, rfl, a, _, rfl, .inl hs, _, _, rfl, rfl, _, rfl, ite2 (fun c => ?_) (fun c => ?_)⟩
      · have c' : (k : Int) < ((ns.map V.int).length : Nat) := of_decide_eq_true c
        have hk2 : k < ns.length := by rw [List.length_map] at c'; omega
        exact ⟨_, rfl, _, rfl, a, _, _, _, rfl, rfl, hs, at_of (j := k) rfl (by rw [List.getElem?_map, List.getElem?_eq_getElem hk2] <;> rfl), _, rfl, _, rfl, rfl⟩
      · exact ⟨_, rfl, rfl⟩
    · rintro _ _ ⟨c, rfl, rfl⟩
      have m1 := Int.emod_nonneg c (by decide : (2147483549 : Int) ≠ 0)
      have m2 := Int.emod_lt_of_pos c (by decide : (0 : Int) < 2147483549)
      refine ⟨_, rfl, _, _, rfl, rfl, ⟨by decide, by decide, by decide⟩, _, _, rfl, rfl, _, _, rfl, ?_⟩
      refine ⟨_, rfl, _, _, rfl, rfl, pj, _, rfl, _, _, rfl, rfl, mulx 13 6 (by decide) (by omega), _, _, rfl, rfl, _, _, rfl, rfl, _, _, rfl, rfl, ⟨by decide, by decide, by omega⟩, _, _, rfl, rfl, pj, sz, fun p hp => ?_⟩
      have e1 := Int.emod_nonneg ((c % 2147483549 + 1009 * (k : Int) + 3) ^ Int.toNat 5) (by decide : (2147483629 : Int) ≠ 0)
      have e2 := Int.emod_lt_of_pos ((c % 2147483549 + 1009 * (k : Int) + 3) ^ Int.toNat 5) (by decide : (0 : Int) < 2147483629)
      refine q p _ hp (same_new hp _) ⟨_, _, upd_same, ?_, e1, Int.lt_trans e2 (by decide)⟩
      split <;> omega
def spTake : Sp := fun vs H Q _ => ∃ (p : Addr) (m : Int), vs = [.ref p, .int m] ∧ PotAt H p ∧ 1 ≤ m ∧ m < 2 ^ 200 ∧ ∀ (d : Nat) H', (d : Int) < m → But p H H' → PotAt H' p → Q (.int d) H'
theorem k__law_draw (D : Df K mg "_law_draw" s__law_draw ["_law_store_here", "_law_many"]) : Dn P w K mg base 1 "_law_draw" ["_law_store_here", "_law_many"] spTake := by
  refine D.ok fun f fd F => okG0 F sc__law_draw (fun vs H Q E h => ?_) (fun cdv A outer s H vs Q E hr h => ⟨_, (pss_cons (ps_if (pt_cmpR op_gt (pe_ix (kk (K := K) (F := rIxL) (P := IxR _) ix_list) (pv 0) pe_int (fun _ _ => rfl)) pe_int (nomark _))
      (pss_cons (ps_set (i := 2) sc__law_draw.nd rfl (Or.inl rfl) (pe_op op_mod (pe_ix (kk (K := K) (F := rIxL) (P := IxR _) ix_list) (pv 0) pe_int (fun _ _ => rfl)) (pv 1)))
      (pss_cons (ps_asg (pe_op op_fdivW (pe_ix (kk (K := K) (F := rIxL) (P := IxR _) ix_list) (pv 0) pe_int (fun _ _ => rfl)) (pv 1)) (pg_sub (pv 0) pe_int set_list))
      (pss_one (ps_ret (pv 2)))))
      pss_nil)
    (pss_cons (ps_asg (pe_op op_mod (pe_op op_add (pe_op op_mulX (pe_ix (kk (K := K) (F := rIxL) (P := IxR _) ix_list) (pv 0) pe_int (fun _ _ => rfl)) pe_int) pe_int) pe_int) (pg_sub (pv 0) pe_int set_list))
    (pss_one (ps_ret (pe_op op_mod (pe_op op_fdivW (pe_op op_mod (pe_op op_pow (pe_ix (kk (K := K) (F := rIxL) (P := IxR _) ix_list) (pv 0) pe_int (fun _ _ => rfl)) pe_int) pe_int) pe_int) (pv 1)))))), ?_⟩)
  · obtain ⟨p, m, rfl, _⟩ := h; rfl
  · obtain ⟨p, m, rfl, ⟨a, b, hp, ha, hb, hb2⟩, hm, hm2, q0⟩ := h
    have q : ∀ (d : Int) H', 0 ≤ d → d < m → But p H H' → PotAt H' p → Q (.int d) H' := fun d H' d0 d1 => by
      obtain ⟨e, rfl⟩ : ∃ e : Nat, d = (e : Int) := ⟨d.toNat, by omega⟩
      exact q0 e H' d1
    refine ⟨_, rfl, p, _, _, _, rfl, rfl, SqL.of hp, at_of (j := 0) rfl rfl, _, _, rfl, rfl, _, rfl, ite2 (fun c => ?_) (fun c => ?_)⟩
    · refine ⟨_, rfl, p, _, _, _, rfl, rfl, SqL.of hp, at_of (j := 0) rfl rfl, _, rfl, _, _, rfl, rfl, by omega, ?_⟩
      refine ⟨_, rfl, p, _, _, _, rfl, rfl, SqL.of hp, at_of (j := 0) rfl rfl, _, rfl, _, _, rfl, rfl, ⟨by omega, Nat.lt_trans (log_lt (n := 200) (by decide) (by omega)) (by decide)⟩, _, rfl, p, _, _, _, rfl, rfl, hp, rfl, _, rfl, ?_⟩
      have h1 := Int.emod_nonneg a (by omega : m ≠ 0)
      have h2 := Int.emod_lt_of_pos a (by omega : 0 < m)
      have h3 := Int.ediv_nonneg ha (by omega : 0 ≤ m)
      exact q _ _ h1 h2 But.upd ⟨_, _, upd_same, h3, hb, hb2⟩
    · have hm1 := Int.emod_nonneg (b * 48271 + 12289) (by decide : (2147483647 : Int) ≠ 0)
      have hm3 := Int.emod_lt_of_pos (b * 48271 + 12289) (by decide : (0 : Int) < 2147483647)
      refine ⟨_, rfl, p, _, _, _, rfl, rfl, SqL.of hp, at_of (j := 1) rfl rfl, _, _, rfl, rfl, mulx 40 16 (by omega) (by decide), _, _, rfl, rfl, _, _, rfl, rfl, pj, ?_⟩
      refine ⟨_, rfl, p, _, _, _, rfl, rfl, hp, rfl, ?_⟩
      refine ⟨_, rfl, p, _, _, _, rfl, rfl, SqL.of upd_same, at_of (j := 1) rfl rfl, _, _, rfl, rfl, ⟨by decide, by decide, by omega⟩, ?_⟩
      refine ⟨_, _, rfl, rfl, pj, _, _, rfl, rfl, ⟨by decide, by decide⟩, _, rfl, _, _, rfl, rfl, hm, ?_⟩
      exact q _ _ (Int.emod_nonneg _ (by omega)) (Int.emod_lt_of_pos _ (by omega)) But.upd ⟨_, _, upd_same, ha, hm1, by omega⟩
def spLT6 (n : Nat) : Sp := fun vs H Q _ => ∃ (p : Addr) (f m : Nat), vs = [.ref p, .int f, .int m] ∧ PotAt H p ∧ 1 ≤ m ∧ m ≤ n ∧ m ≤ 40 ∧ ∀ v t H', But p H H' → PotAt H' p → TrAt H' v t → IsRow t f → t.cnt = m → Q v H'
theorem _law_tree_z (vs : List V) (H : Hp) (Q : VK) (E : XK) : ¬ spLT6 0 vs H Q E := by
  rintro ⟨p, f, m, _, _, h1, h2, _⟩
  omega
theorem k__law_tree_rec (D : Df K mg "_law_tree" s__law_tree ["_law_store_here", "_law_first", "_law_many"]) (D__law_draw : Dn P w K mg base 1 "_law_draw" ["_law_store_here", "_law_many"] spTake) : ∀ n : Nat, Dn P w K mg base (2 + n) "_law_tree" ["_law_store_here", "_law_first", "_law_many"] (spLT6 n) := by
  intro n
  induction n with
  | zero => exact D.ok fun f fd F => ⟨fun vs H Q E h => (_law_tree_z B vs H Q E h).elim, fun _ _ _ _ h => (_law_tree_z B _ _ _ _ h).elim⟩
  | succ n D__law_tree =>
    refine D.ok fun f fd F => okG0 (k := 2 + n) F sc__law_tree (fun vs H Q E h => ?_) (fun cdv A outer s H vs Q E hr h => ⟨_, (pss_cons (ps_if (pt_cmpR op_eq (pv 2) pe_int (nomark _))
      (pss_one (ps_ret (pv 1)))
      pss_nil)
    (pss_cons (ps_set (i := 3) sc__law_tree.nd rfl (Or.inl rfl) (pe_op op_add pe_int (pe_cD D__law_draw (hr.less (by omega)) rfl (pa_cons (pv 0) (pa_cons (pe_op op_sub (pv 2) pe_int) pa_nil)))))
    (pss_cons (ps_set (i := 4) sc__law_tree.nd rfl (Or.inl rfl) (pe_cD D__law_tree (hr.less (by omega)) rfl (pa_cons (pv 0) (pa_cons (pv 1) (pa_cons (pv 3) pa_nil)))))
    (pss_one (ps_ret (pe_tup (pa_cons (pv 4) (pa_cons (pe_cD D__law_tree (hr.less (by omega)) rfl (pa_cons (pv 0) (pa_cons (pe_op op_add (pv 1) (pv 3)) (pa_cons (pe_op op_sub (pv 2) (pv 3)) pa_nil)))) pa_nil)))))))), ?_⟩)
    · obtain ⟨p, f, m, rfl, _⟩ := h; rfl
    · obtain ⟨p, f, m, rfl, hp, h1, h2, h40, q⟩ := h
      refine ⟨_, rfl, rfl, _, rfl, ite2 (fun c => ?_) (fun c => ?_)⟩
      · have c' : m = 1 := by have := V.int.inj (of_decide_eq_true c); omega
        subst c'
        exact ⟨_, rfl, q _ (.leaf f) _ But.refl hp rfl rfl rfl⟩
      · have c' : m ≠ 1 := fun z => c (by subst z; rfl)
        refine ⟨_, rfl, _, rfl, _, _, rfl, rfl, p, _, rfl, hp, by omega, Int.lt_of_le_of_lt (b := 40) (by omega) (by decide), fun e H1 e1 b1 p1 => ⟨_, _, rfl, rfl, ?_⟩⟩
        refine ⟨_, rfl, _, rfl, _, rfl, p, f, 1 + e, rfl, p1, by omega, by omega, by omega, fun v1 t1 H2 b2 p2 k1 k2 k3 => ?_⟩
        refine ⟨_, rfl, _, rfl, _, rfl, _, rfl, _, _, rfl, rfl, _, rfl, _, rfl, _, _, rfl, rfl, p, f + (1 + e), m - (1 + e), ?_, p2, by omega, by omega, by omega, fun v2 t2 H3 b3 p3 g1 g2 g3 => ⟨sz, fun a ha => ?_⟩⟩
        · show [V.ref p, V.int ((f : Int) + (1 + (e : Int))), V.int ((m : Int) - (1 + (e : Int)))] = _
          rw [show (f : Int) + (1 + (e : Int)) = ((f + (1 + e) : Nat) : Int) by omega, show (m : Int) - (1 + (e : Int)) = ((m - (1 + e) : Nat) : Int) by omega] <;> rfl
        · have S3 := same_new ha (.tup [v1, v2])
          obtain ⟨_, _, hp2, _⟩ := p2
          refine q _ (.node t1 t2) _ (b1.trans (b2.trans (b3.trans (same_but S3)))) (p3.same S3) ⟨a, v1, v2, rfl, upd_same, (k1.but b3 hp2).same S3, g1.same S3⟩ ⟨k2, by rw [k3]; exact g2⟩ ?_
          show t1.cnt + t2.cnt = m
          omega
theorem k__law_tree (D : Df K mg "_law_tree" s__law_tree ["_law_store_here", "_law_first", "_law_many"]) (D__law_draw : Dn P w K mg base 1 "_law_draw" ["_law_store_here", "_law_many"] spTake) : Dn P w K mg base 42 "_law_tree" ["_law_store_here", "_law_first", "_law_many"] (spLT6 40) := k__law_tree_rec B D D__law_draw 40
/-! SPLIT -/
local macro_rules | `(tactic| walk_at "own") => `(tactic| fail)
local macro_rules | `(tactic| walk_at "sm") => `(tactic| first
  | with_reducible assumption
  | exact fun _ _ z => z
  | (apply Toy.same_bk; (with_reducible assumption); walk_at "sm")
  | solve_by_elim only [Toy.same_bk, *])
local macro_rules | `(tactic| walk_at "hp") => `(tactic| ((with_reducible refine (?_ : _ = some _)); first
  | with_reducible assumption
  | exact L2.upd_same
  | (apply Toy.hp_new; assumption; walk_at "hp")
  | (apply Toy.hp_at; (with_reducible assumption); walk_at "sm")))
local macro_rules | `(tactic| walk_at "sql") => `(tactic| first
  | with_reducible assumption
  | (apply L2.SqL.of; walk_at "hp")
  | (apply Toy.sql_at; (with_reducible assumption); walk_at "sm"))
local macro_rules | `(tactic| walk_at "sqt") => `(tactic| first
  | with_reducible assumption
  | (apply L2.SqT.of; walk_at "hp")
  | (apply Toy.sqt_at; (with_reducible assumption); walk_at "sm"))
local macro_rules | `(tactic| walk_at "ar") => `(tactic| first
  | with_reducible refine (?_ : (_ : Int) < _)
  | with_reducible refine (?_ : (_ : Int) ≤ _)
  | with_reducible refine (?_ : (_ : Nat) < _)
  | with_reducible refine (?_ : (_ : Nat) ≤ _)
  | with_reducible refine (?_ : (_ : Int) = _)
  | with_reducible refine (?_ : (_ : Nat) = _)
  | with_reducible refine (?_ : ¬ _)
  | with_reducible refine (?_ : _ ∧ _))
local macro_rules | `(tactic| walk_at "om") => `(tactic| (walk_at "ar"; omega))
local macro_rules | `(tactic| walk_at "num") => `(tactic| first
  | (walk_at "ar"; first
    | omega
    | (simp only [List.length_map, List.length_append, List.length_cons, List.length_nil, List.length_replicate, List.length_take, List.length_drop, List.length_range, List.length_set, List.length_reverse] <;> omega)
    | decide
    | (split <;> split <;> omega)
    | (split <;> omega))
  | decide)
local macro_rules | `(tactic| walk_at "side") => `(tactic| first
  | with_reducible rfl
  | walk_at "om"
  | with_reducible assumption
  | exact Toy.sz
  | (apply L2.SqL.of; walk_at "hp")
  | (apply L2.SqT.of; walk_at "hp")
  | (with_reducible apply Or.inl; walk_at "sql")
  | (with_reducible apply Or.inr; walk_at "sqt")
  | (with_reducible apply Exists.intro; walk_at "side")
  | walk_at "hp"
  | exact Eq.refl _
  | (apply Toy.lk1000; walk_at "num")
  | (apply Toy.lt1000; walk_at "num")
  | walk_at "num"
  | (apply Toy.lst_dp; apply L2.SqL.of; walk_at "hp")
  | (apply Toy.tupI_dp; apply L2.SqT.of; walk_at "hp")
  | exact Toy.ints_sh _
  | exact Toy.tupI_sh _
  | (apply L2.RgOk.of_le <;> walk_at "num")
  | (apply L2.atI_nat; assumption)
  | exact L2.Dp.lst (L2.SqL.of (by walk_at "hp")) L2.DpAll.nil
  | exact L2.Dp.tup (L2.SqT.of (by walk_at "hp")) L2.DpAll.nil
  | (apply Toy.ixn; walk_at "num")
  | exact Toy.tyL (by walk_at "hp")
  | walk_at "sql"
  | walk_at "sqt"
  | exact L2.ClsV.ty _
  | (apply L2.TyX.base; first | exact L2.TyOf.int _ | exact L2.TyOf.bl _ | exact L2.TyOf.non | exact L2.TyOf.str _ | (apply L2.TyOf.tup; walk_at "hp") | (apply L2.TyOf.lst; walk_at "hp"))
  | exact L2.kit_ty (r := true) (by decide +kernel)
  | exact L2.kit_ty (r := false) (by decide +kernel)
  | walk_at "own"
  | assumption
  | (walk_at "ar"; solve_by_elim only [Toy.hp_same, Toy.hp_new, L2.upd_same, *]))
local macro_rules | `(tactic| walk_at "go") => `(tactic| first
  | (apply And.intro; (focus (walk_at "side")); try walk_at "go")
  | (apply Exists.intro; rotate_left; (fail_if_success (with_reducible refine (?_ : Nat → _ → _))); (fail_if_success (with_reducible refine (?_ : L2.St → _ → _))); rotate_right; try walk_at "go")
  | (apply Or.inl; apply And.intro; (focus (walk_at "sql")); try walk_at "go")
  | (apply Or.inr; apply And.intro; (focus (walk_at "sqt")); try walk_at "go"))
/-! ENDM -/
/-- the stepper stops here -/
structure Kept (p : Prop) : Prop where
  ex : p
omit B in
theorem none_back {H H' : Hp} {a : Addr} (S : Same H H') (h : H' a = none) : H a = none := by
  cases e : H a with
  | none => rfl
  | some o =>
    rw [S _ _ e] at h
    cases h
omit B in
theorem But.fr {p E : Addr} {H H1 : Hp} {o : HO} (b : But p H H1) (hE : H E = none) : But p H (L2.upd H1 E o) := fun x u n h => by rw [upd_ne (ne_of_none h hE)]; exact b x u n h
omit B in
theorem but_fr {p E : Addr} {H H1 H2 : Hp} (b : But p H H1) (hE : H E = none) (c : But E H1 H2) : But p H H2 := fun x u n h => c _ _ (ne_of_none h hE) (b x u n h)
omit B in
theorem pot_keep {p : Addr} {H H' : Hp} (b : But p H H') (hp : PotAt H p) : ∀ t xs, H t = some (.tup xs) → H' t = some (.tup xs) := fun t xs e => by
  obtain ⟨_, _, h1, _⟩ := hp
  exact b _ _ (ne_of e h1 (by intro z; cases z)) e
omit B in
theorem GridAt.keep {H H' : Hp} {T : Addr} {rs : List (Addr × List Nat)} {M B' : Nat} (g : GridAt H T rs M B') (e : ∀ t xs, H t = some (.tup xs) → H' t = some (.tup xs)) : GridAt H' T rs M B' :=
  ⟨e _ _ g.top, fun x hx => ⟨e _ _ (g.rows x hx).1, (g.rows x hx).2⟩⟩
omit B in
theorem PotAt.fr {H : Hp} {p E : Addr} {o : HO} (h : PotAt H p) (n : p ≠ E) : PotAt (L2.upd H E o) p := by
  obtain ⟨a, b, h1, h2⟩ := h
  exact ⟨a, b, by rw [upd_ne n]; exact h1, h2⟩
omit B in
theorem Bel.snoc {xs : List Nat} {n N : Nat} (h : Bel xs N) (hn : n < N) : Bel (xs ++ [n]) N := fun x hx => by
  rcases List.mem_append.mp hx with z | z
  · exact h x z
  · cases List.mem_singleton.mp z; exact hn
/-! ### the law's families (k62 to k65, k69) -/
def kN (d : List Nat) : List Key := d.map fun n : Nat => Sum.inl (n : Int)
omit B in
theorem kN_kV {d : List Nat} : (kN d).map kV = (iN d).map V.int := by unfold kN iN; rw [List.map_map, List.map_map] <;> rfl
omit B in
theorem kN_inj {a b : List Nat} (h : kN a = kN b) : a = b := (List.map_inj_right fun x y e => Int.ofNat.inj (Sum.inl.inj e)).mp h
def ks (fs : List (List Nat × Addr)) : List (List Nat) := fs.map fun x => x.1
/-- a dict from deeds to their words -/
structure FdAt (H : Hp) (D : Addr) (fs : List (List Nat × Addr)) : Prop where
  top : H D = some (.dT (fs.map fun x => (kN x.1, V.ref x.2)))
  wd : ∀ x ∈ fs, ∃ w : List Nat, H x.2 = some (.tup ((iN w).map V.int)) ∧ w.length ≤ fs.length
omit B in
theorem FdAt.same {H H' : Hp} {D : Addr} {fs : List (List Nat × Addr)} (a : FdAt H D fs) (e : Same H H') : FdAt H' D fs := ⟨e _ _ a.top, fun x hx => by
  obtain ⟨w, h1, h2⟩ := a.wd x hx
  exact ⟨w, e _ _ h1, h2⟩⟩
omit B in
theorem fd_none {fs : List (List Nat × Addr)} {d : List Nat} (h : d ∉ ks fs) : valV (fs.map fun x => (kN x.1, V.ref x.2)) (kN d) = none := by
  induction fs with
  | nil => rfl
  | cons x fs ih =>
    rw [List.map_cons, valV_neg fun e => h (by rw [← kN_inj e]; exact List.mem_cons_self)]
    exact ih fun m => h (List.mem_cons_of_mem _ m)
omit B in
theorem fd_some {fs : List (List Nat × Addr)} {d : List Nat} (h : d ∈ ks fs) : ∃ x ∈ fs, x.1 = d ∧ valV (fs.map fun x => (kN x.1, V.ref x.2)) (kN d) = some (V.ref x.2) := by
  induction fs with
  | nil => exact absurd h List.not_mem_nil
  | cons x fs ih =>
    by_cases e : x.1 = d
    · exact ⟨x, List.mem_cons_self, e, by rw [List.map_cons, valV_pos (by rw [e])]⟩
    · have h2 : d ∈ ks fs := by
        rcases List.mem_cons.mp h with z | z
        · exact absurd z.symm e
        · exact z
      obtain ⟨y, hy, e1, e2⟩ := ih h2
      exact ⟨y, List.mem_cons_of_mem _ hy, e1, by rw [List.map_cons, valV_neg fun z => e (kN_inj z)]; exact e2⟩
omit B in
theorem ks_snoc {fs : List (List Nat × Addr)} {x : List Nat × Addr} : ks (fs ++ [x]) = ks fs ++ [x.1] := by unfold ks; rw [List.map_append] <;> rfl
omit B in
theorem ks_len {fs : List (List Nat × Addr)} : (ks fs).length = fs.length := by unfold ks; rw [List.length_map]
/-- closed but for some -/
def Ce (M K X : List (List Nat)) : Prop := ∀ d ∈ K, d ∈ X ∨ ∀ m ∈ M, thn d m ∈ K
omit B in
theorem Ce.mono {M K K' X X' : List (List Nat)} (c : Ce M K X) (hk : ∀ d ∈ K, d ∈ K') (hx : ∀ d ∈ X, d ∈ X') (hn : ∀ d ∈ K', d ∈ K ∨ d ∈ X') : Ce M K' X' := fun d hd => by
  rcases hn d hd with a | a
  · rcases c d a with b | b
    · exact .inl (hx d b)
    · exact .inr fun m hm => hk _ (b m hm)
  · exact .inl a
/-- rows that stand -/
def RsAt (H : Hp) (ls : List (Addr × List Nat)) : Prop := ∀ x ∈ ls, H x.1 = some (.tup ((iN x.2).map V.int))
omit B in
theorem RsAt.same {H H' : Hp} {ls : List (Addr × List Nat)} (a : RsAt H ls) (e : Same H H') : RsAt H' ls := fun x hx => e _ _ (a x hx)
omit B in
theorem GridAt.rs {H : Hp} {T : Addr} {rs : List (Addr × List Nat)} {M B : Nat} (g : GridAt H T rs M B) : RsAt H rs := fun x hx => (g.rows x hx).1
omit B in
theorem GridAt.dts {H : Hp} {T : Addr} {rs : List (Addr × List Nat)} {S : Nat} (g : GridAt H T rs S S) : ∀ m ∈ gr rs, Dt S m := fun m hm => by
  obtain ⟨x, hx, rfl⟩ := List.mem_map.mp hm
  exact (g.rows x hx).2
/-- the state of the making of a family -/
structure FmI (S : Nat) (M : List (List Nat)) (H0 H : Hp) (D : Addr) (fs : List (List Nat × Addr)) (X : List (List Nat)) : Prop where
  sm : Same H0 H
  at_ : FdAt H D fs
  nd : (ks fs).Nodup
  rc : ∀ d ∈ ks fs, Rch S M d
  ce : Ce M (ks fs) X
  one : List.range S ∈ ks fs
omit B in
theorem rg_iN {m : Nat} : rgV 0 (m : Int) = (iN (List.range m)).map V.int := by
  unfold rgV iN
  rw [List.map_map, Int.sub_zero, Int.toNat_natCast]
  refine List.map_congr_left fun i _ => ?_
  show V.int (0 + (i : Int)) = V.int (i : Int)
  rw [Int.zero_add]
def lsD (ls : List (Addr × List Nat)) : PyData := .list (ls.map fun x => .tuple ((iN x.2).map PyData.int))
omit B in
theorem lsD_ly {ls : List (Addr × List Nat)} : Ly 2 (lsD ls) := .lst fun d hd => by
  obtain ⟨x, _, rfl⟩ := List.mem_map.mp hd
  exact .tupI
omit B in
theorem lsD_dp {K : PySem.W.Frag} {H : Hp} {L : Addr} {ls : List (Addr × List Nat)} (h : H L = some (.lst (ls.map fun x => V.ref x.1))) (r : RsAt H ls) : Dp K H (.ref L) (lsD ls) := by
  refine .lst (SqL.of h) (dpAll_of (by rw [List.length_map, List.length_map]) fun i x d hx hd => ?_)
  rw [List.getElem?_map] at hx hd
  obtain ⟨y, hy, rfl⟩ := Option.map_eq_some_iff.mp hx
  rw [hy] at hd
  cases (Option.some.inj hd)
  exact tupI_dp (SqT.of (r y (List.mem_of_getElem? hy)))
/-- the big loop -/
def FmW (S : Nat) (M : List (List Nat)) (T F D : Addr) (H0 : Hp) (m : Nat) (σ : L2.St) (H : Hp) : Prop := ∃ (fs : List (List Nat × Addr)) (ls : List (Addr × List Nat)) (L : Addr) (w4 w5 w6 w7 w8 : Option V),
  σ = [some (.ref T), some (.ref F), some (.ref D), some (.ref L), w4, w5, w6, w7, w8] ∧ FmI S M H0 H D fs (ls.map fun x => x.2) ∧ H L = some (.lst (ls.map fun x => V.ref x.1)) ∧ RsAt H ls ∧ (∀ x ∈ ls, x.2 ∈ ks fs) ∧ fs.length ≤ 300 ∧ ls.length ≤ fs.length ∧ m = (if ls = [] then 0 else 400 - fs.length) ∧ H0 L = none ∧ ∃ n, ks fs = kf (gp S M n) ∧ ls.map (fun x => x.2) = (ks fs).drop n ∧ n + ls.length = fs.length ∧ ∀ k, k < n → k < (gp S M k).length
/-- within a turn of the big loop -/
structure FmB (S : Nat) (M : List (List Nat)) (H0 H : Hp) (D L Mo : Addr) (fs0 fs : List (List Nat × Addr)) (ls ms : List (Addr × List Nat)) (X : List (List Nat)) (cap : Nat) : Prop where
  I : FmI S M H0 H D fs (X ++ ms.map fun x => x.2)
  hL : H L = some (.lst (ls.map fun x => V.ref x.1))
  hM : H Mo = some (.lst (ms.map fun x => V.ref x.1))
  hR : RsAt H ls
  hm : RsAt H ms
  min : ∀ x ∈ ms, x.2 ∈ ks fs
  up : ∀ d ∈ ks fs0, d ∈ ks fs
  len : fs.length = fs0.length + ms.length
  cap : ms.length ≤ cap
omit B in
theorem FmB.same {S : Nat} {M : List (List Nat)} {H0 H H' : Hp} {D L Mo : Addr} {fs0 fs : List (List Nat × Addr)} {ls ms : List (Addr × List Nat)} {X : List (List Nat)} {cap : Nat} (b : FmB S M H0 H D L Mo fs0 fs ls ms X cap) (e : Same H H') : FmB S M H0 H' D L Mo fs0 fs ls ms X cap :=
  ⟨⟨b.I.sm.trans e, b.I.at_.same e, b.I.nd, b.I.rc, b.I.ce, b.I.one⟩, e _ _ b.hL, e _ _ b.hM, b.hR.same e, b.hm.same e, b.min, b.up, b.len, b.cap⟩
omit B in
/-- a new deed: the dict has it, and the row of the new ones -/
theorem FmB.add {S : Nat} {M : List (List Nat)} {H0 H H1 H2 : Hp} {D L Mo U W : Addr} {fs0 fs : List (List Nat × Addr)} {ls ms : List (Addr × List Nat)} {X : List (List Nat)} {cap : Nat} {d w : List Nat} (b : FmB S M H0 H D L Mo fs0 fs ls ms X cap)
    (hd : d ∉ ks fs) (r : Rch S M d) (hU : H U = some (.tup ((iN d).map V.int))) (hW : H W = some (.tup ((iN w).map V.int))) (hw : w.length ≤ fs.length + 1) (hDn : H0 D = none) (hMn : H0 Mo = none) (nDM : D ≠ Mo) (nDL : D ≠ L) (nLM : L ≠ Mo)
    (b1 : But D H H1) (o1 : H1 D = some (.dT ((fs.map fun x => (kN x.1, V.ref x.2)) ++ [(kN d, .ref W)]))) (b2 : But Mo H1 H2) (o2 : H2 Mo = some (.lst (ms.map (fun x => V.ref x.1) ++ [.ref U]))) : FmB S M H0 H2 D L Mo fs0 (fs ++ [(d, W)]) ls (ms ++ [(U, d)]) X (cap + 1) := by
  have tk : ∀ p xs, H p = some (.tup xs) → H2 p = some (.tup xs) := fun p xs e => b2 _ _ (ne_of (b1 _ _ (ne_of e b.I.at_.top (by intro z; cases z)) e) (b1 _ _ (Ne.symm nDM) b.hM) (by intro z; cases z)) (b1 _ _ (ne_of e b.I.at_.top (by intro z; cases z)) e)
  refine ⟨⟨fun c o h => b2 _ _ (ne_of_none h hMn) (b1 _ _ (ne_of_none h hDn) (b.I.sm _ _ h)), ⟨?_, fun x hx => ?_⟩, ?_, fun y hy => ?_, ?_, ?_⟩, b2 _ _ nLM (b1 _ _ (Ne.symm nDL) b.hL), ?_, fun x hx => tk _ _ (b.hR x hx), fun x hx => ?_, fun x hx => ?_, fun y hy => ?_, ?_, ?_⟩
  · rw [b2 _ _ nDM o1, List.map_append] <;> rfl
  · rcases List.mem_append.mp hx with h | h
    · obtain ⟨w', h1, h2⟩ := b.I.at_.wd x h
      exact ⟨w', tk _ _ h1, by rw [List.length_append]; omega⟩
    · cases List.mem_singleton.mp h
      exact ⟨w, tk _ _ hW, by rw [List.length_append]; exact hw⟩
  · rw [ks_snoc, List.nodup_append]
    refine ⟨b.I.nd, by simp, fun a ha c hc z => ?_⟩
    cases List.mem_singleton.mp hc
    have z2 : a = d := z
    subst z2
    exact hd ha
  · rw [ks_snoc] at hy
    rcases List.mem_append.mp hy with h | h
    · exact b.I.rc y h
    · cases List.mem_singleton.mp h
      exact r
  · refine b.I.ce.mono (fun y hy => by rw [ks_snoc]; exact List.mem_append_left _ hy) (fun y hy => ?_) (fun y hy => ?_)
    · rw [List.map_append, ← List.append_assoc]
      exact List.mem_append_left _ hy
    · rw [ks_snoc] at hy
      rcases List.mem_append.mp hy with h | h
      · exact .inl h
      · cases List.mem_singleton.mp h
        exact .inr (by rw [List.map_append, ← List.append_assoc]; exact List.mem_append_right _ (by simp))
  · rw [ks_snoc]
    exact List.mem_append_left _ b.I.one
  · rw [o2, List.map_append] <;> rfl
  · rcases List.mem_append.mp hx with h | h
    · exact tk _ _ (b.hm x h)
    · cases List.mem_singleton.mp h
      exact tk _ _ hU
  · rw [ks_snoc]
    rcases List.mem_append.mp hx with h | h
    · exact List.mem_append_left _ (b.min x h)
    · cases List.mem_singleton.mp h
      exact List.mem_append_right _ (by simp)
  · rw [ks_snoc]
    exact List.mem_append_left _ (b.up y hy)
  · rw [List.length_append, List.length_append, b.len]
    show _ + 1 = _ + (_ + 1)
    omega
  · rw [List.length_append]
    have := b.cap
    show _ + 1 ≤ _
    omega
omit B in
theorem fam_of {S : Nat} {M K : List (List Nat)} (nd : K.Nodup) (rc : ∀ d ∈ K, Rch S M d) (ce : Ce M K []) (one : List.range S ∈ K) : Fam S M K := ⟨one, fun d hd m hm => by
  rcases ce d hd with h | h
  · exact absurd h List.not_mem_nil
  · exact h m hm, rc, nd⟩
/-- few come of them, or there is but one -/
def Few (S : Nat) (M : List (List Nat)) : Prop := (∃ F, Fam S M F ∧ F.length ≤ 60) ∨ M.length = 1
omit B in
theorem Few.le {S : Nat} {M K : List (List Nat)} (f : Few S M) (hM : ∀ m ∈ M, Dt S m) (s1 : 1 ≤ S) (s5 : S ≤ 5) (nd : K.Nodup) (rc : ∀ d ∈ K, Rch S M d) : K.length ≤ 60 := by
  rcases f with ⟨F, f, h⟩ | h
  · exact Nat.le_trans (nodup_le nd fun d hd => f.all (rc d hd)) h
  · match M, h with
    | [m], _ => exact Nat.le_trans (one_few s1 s5 (hM m (by simp)) nd rc) (by decide)
omit B in
theorem cut_last {xs : List V} (h : 1 ≤ xs.length) : cutV xs none (some (-1)) = xs.dropLast := by
  have e : HT.sIx xs.length xs.length (some (-1)) = xs.length - 1 := by
    show (if (-1 : Int) < 0 then (-1 + (xs.length : Int)).toNat else min ((-1 : Int).toNat) xs.length) = _
    rw [if_pos (by decide)]
    omega
  unfold cutV
  rw [e, show HT.sIx xs.length 0 none = 0 from rfl, List.drop_zero, List.dropLast_eq_take, Nat.sub_zero]
def spThen6 : Sp := fun vs H Q _ => ∃ (A B : Addr) (xs ys : List Nat), vs = [.ref A, .ref B] ∧ H A = some (.tup ((iN xs).map V.int)) ∧ H B = some (.tup ((iN ys).map V.int)) ∧ Bel xs ys.length ∧ xs.length ≤ 100 ∧ ∀ T H', Same H H' → H T = none → H' T = some (.tup ((iN (thn xs ys)).map V.int)) → Q (.ref T) H'
theorem k_one_then (D : Df K mg "one_then" s_one_then ["one", "other"]) : Dn P w K mg base 1 "one_then" ["one", "other"] spThen6 := by
  refine D.ok fun f fd F => okG0 F sc_one_then (fun vs H Q E h => ?_) (fun cdv A outer s H vs Q E hr h => ⟨_, (pss_one (ps_ret (pe_callTy (tupOfK (K := K)) (by rfl) B.tuple_ (by decide +kernel) (pa_cons (pe_lc (own := [("state", 2)]) (g := gName 2) (tt := tYes) rfl sc_one_then.nd (kk (K := K) (F := fun K => iTup K _) (P := PI _ _ _) (pi_tup (pv 0))) (blkOk_by (own := [("state", 2)]) (N := ["one", "other", "state"]) (sc := defScope s_one_then) (by decide +kernel)) (fun _ _ _ _ _ => (pg_name (i := 2) sc_one_then.nd rfl (Or.inl rfl))) (fun _ _ _ _ _ => pts_nil) (fun _ _ _ _ _ => (pe_ix (kk (K := K) (F := rIxT) (P := IxR _) ix_tup) (pv 1) (pv 2) (fun _ _ => rfl)))) pa_nil)))), ?_⟩)
  · obtain ⟨A, B, xs, ys, rfl, _⟩ := h; rfl
  · obtain ⟨A, B', xs, ys, rfl, hA, hB, hb, hl, q⟩ := h
    try walk_at "go"
    intro D hD
    refine lc_tup (K := K) (a := A) (xs := (iN xs).map V.int) (fun i H' => Kept (Same H H' ∧ H' D = some (.lst ((iN (thn (xs.take i) ys)).map V.int)))) ⟨same_new hD _, upd_same⟩ (fun i H' _ h => SqT.of (h.ex.1 _ _ hA)) ?_ ?_
    · rintro i x H' hx ⟨S1, hD1⟩
      obtain ⟨n, rfl, hn⟩ := iN_mem hx
      have hB1 := S1 _ _ hB
      have hi : i < 100 := by have := (List.getElem?_eq_some_iff.mp hn).1; omega
      have an : atI ((iN ys).map V.int) (n : Int) = some (.int (ys.getD n 0 : Nat)) := atI_nat (iN_at (getD_at (hb n (List.mem_of_getElem? hn))))
      have ul : ((iN (thn (xs.take i) ys)).map V.int).length ≤ 200 := by rw [iN_len]; unfold thn; rw [List.length_map, List.length_take]; omega
      try walk_at "go"
      refine ⟨⟨but_same hD S1 But.upd, ?_⟩⟩
      rw [upd_same, iN_snoc, List.take_succ, hn] <;> (unfold thn; rw [List.map_append] <;> rfl)
    · rintro H2 ⟨S2, hD2⟩
      rw [iN_len, List.take_length] at hD2
      try walk_at "go"
      intro U hU
      generalize eH3 : upd _ U _ = H3
      have SH3 := newS eH3 hU
      have oU := newO eH3
      exact q U _ (S2.trans SH3) (none_back S2 hU) oU
/-! SPLIT -/
/-! dicts from deeds to numbers -/
omit B in
theorem puts_none {k : List Key} : ∀ {rows : List (List Key × Addr × V)} {acc : List (List Key × V)}, (∀ r ∈ rows, r.1 ≠ k) → valV (putsK acc rows) k = valV acc k
  | [], _, _ => rfl
  | r :: rows, acc, h => by
    show valV (putsK (putK acc r.1 r.2.2) rows) k = _
    rw [puts_none fun x hx => h x (List.mem_cons_of_mem _ hx), valV_put, if_neg (fun e => h r List.mem_cons_self e.symm)]
omit B in
theorem puts_some {k : List Key} : ∀ {rows : List (List Key × Addr × V)} {acc : List (List Key × V)}, (∃ r ∈ rows, r.1 = k) → ∃ r ∈ rows, r.1 = k ∧ valV (putsK acc rows) k = some r.2.2
  | [], _, ⟨_, h, _⟩ => absurd h List.not_mem_nil
  | r :: rows, acc, h => by
    by_cases c : ∃ x ∈ rows, x.1 = k
    · obtain ⟨x, hx, e1, e2⟩ := puts_some (acc := putK acc r.1 r.2.2) c
      exact ⟨x, List.mem_cons_of_mem _ hx, e1, e2⟩
    · have hn : ∀ x ∈ rows, x.1 ≠ k := fun x hx e => c ⟨x, hx, e⟩
      have e : r.1 = k := by
        obtain ⟨x, hx, e⟩ := h
        rcases List.mem_cons.mp hx with rfl | hx
        · exact e
        · exact absurd e (hn x hx)
      refine ⟨r, List.mem_cons_self, e, ?_⟩
      show valV (putsK (putK acc r.1 r.2.2) rows) k = _
      rw [puts_none hn, valV_put, if_pos e.symm]
/-- the numbers of deeds -/
def nrows (ls : List (Addr × List Nat)) : List (List Key × Addr × V) := ls.zipIdx.map fun x => (kN x.1.2, x.1.1, V.int (x.2 : Nat))
omit B in
theorem nrows_at {ls : List (Addr × List Nat)} {j : Nat} {q : List Key × Addr × V} (h : (nrows ls)[j]? = some q) : ∃ x, ls[j]? = some x ∧ q = (kN x.2, x.1, V.int (j : Nat)) := by
  unfold nrows at h
  rw [List.getElem?_map, List.getElem?_zipIdx, Nat.zero_add] at h
  cases hx : ls[j]? with
  | none => rw [hx] at h; cases h
  | some x => rw [hx] at h; exact ⟨x, rfl, (Option.some.inj h).symm⟩
omit B in
theorem nrows_len {ls : List (Addr × List Nat)} : (nrows ls).length = ls.length := by unfold nrows; rw [List.length_map, List.length_zipIdx]
omit B in
theorem nrows_val {ls : List (Addr × List Nat)} {d : List Nat} (h : d ∈ ls.map fun x => x.2) : ∃ j x, ls[j]? = some x ∧ x.2 = d ∧ valV (putsK [] (nrows ls)) (kN d) = some (V.int (j : Nat)) := by
  obtain ⟨x, hx, e⟩ := List.mem_map.mp h
  obtain ⟨j, hj, ej⟩ := List.getElem_of_mem hx
  have hm : ∃ r ∈ nrows ls, r.1 = kN d := by
    refine ⟨(kN x.2, x.1, V.int (j : Nat)), ?_, by rw [e]⟩
    have e2 : (nrows ls)[j]? = some (kN x.2, x.1, V.int (j : Nat)) := by
      unfold nrows
      rw [List.getElem?_map, List.getElem?_zipIdx, Nat.zero_add, List.getElem?_eq_getElem hj, ej] <;> rfl
    exact List.mem_of_getElem? e2
  obtain ⟨r, hr, e1, e2⟩ := puts_some (acc := []) hm
  obtain ⟨i, hi, ei⟩ := List.getElem_of_mem hr
  obtain ⟨y, hy, ey⟩ := nrows_at (by rw [List.getElem?_eq_getElem hi, ei] : (nrows ls)[i]? = some r)
  subst ey
  exact ⟨i, y, hy, kN_inj e1, e2⟩
omit B in
theorem getD_appO {α : Type} {xs ys : List α} {i : Nat} {z : α} (h : i < xs.length) : (xs ++ ys).getD i z = xs.getD i z := by
  rw [List.getD_eq_getElem?_getD, List.getElem?_append_left h, ← List.getD_eq_getElem?_getD]
omit B in
theorem getD_last {α : Type} {xs : List α} {y z : α} {i : Nat} (h : i = xs.length) : (xs ++ [y]).getD i z = y := by
  subst h
  rw [List.getD_eq_getElem?_getD, List.getElem?_append_right (Nat.le_refl _), Nat.sub_self] <;> rfl
/-! ### the program's families -/
def fq (fs : List ((List Nat × List Nat) × Addr)) : List (List Nat × Addr) := fs.map fun x => (x.1.1, x.2)
def fpf (fs : List ((List Nat × List Nat) × Addr)) : PF := fs.map fun x => x.1
structure FpAt (H : Hp) (D : Addr) (fs : List ((List Nat × List Nat) × Addr)) : Prop where
  top : H D = some (.dT ((fq fs).map fun x => (kN x.1, V.ref x.2)))
  wd : ∀ x ∈ fs, H x.2 = some (.tup ((iN x.1.2).map V.int))
omit B in
theorem FpAt.same {H H' : Hp} {D : Addr} {fs : List ((List Nat × List Nat) × Addr)} (a : FpAt H D fs) (e : Same H H') : FpAt H' D fs := ⟨e _ _ a.top, fun x hx => e _ _ (a.wd x hx)⟩
omit B in
theorem fq_ks {fs : List ((List Nat × List Nat) × Addr)} : ks (fq fs) = kf (fpf fs) := by unfold ks fq kf fpf; rw [List.map_map, List.map_map] <;> rfl
omit B in
theorem fq_len {fs : List ((List Nat × List Nat) × Addr)} : (fq fs).length = fs.length := by unfold fq; rw [List.length_map]
omit B in
theorem fpf_len {fs : List ((List Nat × List Nat) × Addr)} : (fpf fs).length = fs.length := by unfold fpf; rw [List.length_map]
omit B in
theorem fpf_snoc {fs : List ((List Nat × List Nat) × Addr)} {x : (List Nat × List Nat) × Addr} : fpf (fs ++ [x]) = fpf fs ++ [x.1] := by unfold fpf; rw [List.map_append] <;> rfl
omit B in
theorem kf_uniq {F : PF} {d w w' : List Nat} (nd : (kf F).Nodup) (h : (d, w) ∈ F) (h' : (d, w') ∈ F) : w = w' := by
  induction F with
  | nil => exact absurd h List.not_mem_nil
  | cons x F ih =>
    have nd2 : x.1 ∉ kf F ∧ (kf F).Nodup := List.nodup_cons.mp nd
    rcases List.mem_cons.mp h with e | e <;> rcases List.mem_cons.mp h' with e' | e'
    · rw [← e] at e'
      exact (Prod.mk.inj e').2.symm
    · exact absurd (List.mem_map.mpr ⟨_, e', rfl⟩) (by rw [← e] at nd2; exact nd2.1)
    · exact absurd (List.mem_map.mpr ⟨_, e, rfl⟩) (by rw [← e'] at nd2; exact nd2.1)
    · exact ih nd2.2 e e'
/-- the loop over those that wait -/
def GrW (S : Nat) (M : List (List Nat)) (T D : Addr) (H0 : Hp) (m : Nat) (σ : L2.St) (H : Hp) : Prop := ∃ (fs : List ((List Nat × List Nat) × Addr)) (ls : List (Addr × List Nat)) (L : Addr) (n : Nat) (w3 w4 w5 w6 : Option V),
  σ = [some (.ref T), some (.ref D), some (.ref L), w3, w4, w5, w6] ∧ Same H0 H ∧ FpAt H D fs ∧ fpf fs = gp S M n ∧ fs.length ≤ 60 ∧ H L = some (.lst (ls.map fun x => V.ref x.1)) ∧ RsAt H ls ∧ ls.map (fun x => x.2) = (kf (gp S M n)).drop n ∧ n ≤ fs.length ∧ (∀ k, k < n → k < (gp S M k).length) ∧ m = 61 - n ∧ H0 L = none
omit B in
theorem keys_rows2 {H : Hp} {fs : List (List Nat × Addr)} {bs : List Addr} (h : IsKeys H (fs.map fun x => (kN x.1, V.ref x.2)) bs) : ∃ ls : List (Addr × List Nat), bs = ls.map (fun x => x.1) ∧ ls.map (fun x => x.2) = ks fs ∧ RsAt H ls := by
  induction fs generalizing bs with
  | nil =>
    cases h
    exact ⟨[], rfl, rfl, fun x hx => absurd hx List.not_mem_nil⟩
  | cons x fs ih =>
    cases h with
    | @cons _ b _ bs' h1 h2 =>
      obtain ⟨ls, e1, e2, e3⟩ := ih h2
      refine ⟨(b, x.1) :: ls, by rw [e1] <;> rfl, by rw [List.map_cons, e2] <;> rfl, fun y hy => ?_⟩
      rcases List.mem_cons.mp hy with rfl | hy
      · have h3 : H b = some (.tup ((kN x.1).map kV)) := h1
        rw [h3, kN_kV]
      · exact e3 y hy
def spWantMk (K : PySem.W.Frag) : Sp := fun vs H Q _ => ∃ (T : Addr) (rs : List (Addr × List Nat)) (S : Nat), vs = [.ref T] ∧ GridAt H T rs S S ∧ 1 ≤ rs.length ∧ rs.length ≤ 4 ∧ 1 ≤ S ∧ S ≤ 5 ∧ ∀ H', Same H H' → Q .non H'
theorem k_want_makers (D : Df K mg "want_makers" s_want_makers ["deeds"]) (D_are_by_table : Dn P w K mg base 3 "are_by_table" ["thing", "most"] (spAreByTable K)) : Dn P w K mg base 4 "want_makers" ["deeds"] (spWantMk K) := by
  refine D.ok fun f fd F => okG0 F sc_want_makers (fun vs H Q E h => ?_) (fun cdv A outer s H vs Q E hr h => ⟨_, (pss_one (ps_if (pt_not (pt_val (pe_cD D_are_by_table (hr.less (by decide)) rfl (pa_cons (pv 0) (pa_cons (pe_glob (v := .int (4)) (u := .int (4) B.MOST_MAKERS_.choose) (by rfl) B.MOST_MAKERS_.choose_spec ⟨_, rfl⟩) pa_nil)))))
     (pss_one ps_never)
     pss_nil)), ?_⟩)
  · obtain ⟨T, rs, S, rfl, _⟩ := h; rfl
  · obtain ⟨T, rs, S, rfl, g, r1, r4, s1, s5, q⟩ := h
    try walk_at "go"
    intro H1 S1
    try walk_at "go"
    exact q _ S1
def spGrown (K : PySem.W.Frag) : Sp := fun vs H Q _ => ∃ (T : Addr) (rs : List (Addr × List Nat)) (S : Nat), vs = [.ref T] ∧ GridAt H T rs S S ∧ 1 ≤ rs.length ∧ rs.length ≤ 4 ∧ 1 ≤ S ∧ S ≤ 5 ∧ Few S (gr rs) ∧
  ∀ D fs n H', Same H H' → H D = none → FpAt H' D fs → fpf fs = gp S (gr rs) n → Fin' S (gr rs) n → fs.length ≤ 60 → Q (.ref D) H'
theorem k_grown (D : Df K mg "grown" s_grown ["deeds"]) (D_one_then : Dn P w K mg base 1 "one_then" ["one", "other"] spThen6) : Dn P w K mg base 2 "grown" ["deeds"] (spGrown K) := by
  refine D.ok fun f fd F => okG0 F sc_grown (fun vs H Q E h => ?_) (fun cdv A outer s H vs Q E hr h => ⟨_, (pss_cons (ps_set (i := 1) sc_grown.nd rfl (Or.inl rfl) (pe_dispT hr.u1 (pe_tupRg rfl (by rfl) B.tuple_ (prg_1 rfl B.range_ (pe_callB (lenK (K := K)) (by rfl) B.len_ (by decide +kernel) (pa_cons (pe_ix (kk (K := K) (F := rIxT) (P := IxR _) ix_tup) (pv 0) pe_int (fun _ _ => rfl)) pa_nil)))) (pe_tup pa_nil)))
    (pss_cons (ps_set (i := 2) sc_grown.nd rfl (Or.inl rfl) (pe_callTy (call_list_dT rfl) (by rfl) B.list_ (by decide +kernel) (pa_cons (pv 1) pa_nil)))
    (pss_cons (ps_while PassesOwn.never (pt_cmpR (kk (K := K) (F := rNeD) (P := OpR _ _) (op_neD hr.units)) (pv 2) (pe_lst pa_nil) (nomark _))
      (pss_cons (ps_set (i := 3) sc_grown.nd rfl (Or.inl rfl) (kk (K := K) (F := fun K => tBM K "list" _ _ _) (P := PE _ _) (pe_bm PySem.F.plainAttrs_list PySem.F.slot_list_pop PySem.F.type_list_pop mt_popAt (pv 2) (pa_cons pe_int pa_nil))))
      (pss_one (ps_for PassesOwn.never rfl (kk (K := K) (F := fun K => iEnumT K _) (P := PI _ _ _) (pi_enumT (by rfl) B.enumerate_ (pa_cons (pv 0) pa_nil))) (kk (K := K) (F := fun K => gTup K 2 _) (P := PG _ _) (pg_tup rfl (pgs_cons (pg_name (i := 4) sc_grown.nd rfl (Or.inl rfl)) (pgs_cons (pg_name (i := 5) sc_grown.nd rfl (Or.inl rfl)) pgs_nil))))
       (pss_cons (ps_set (i := 6) sc_grown.nd rfl (Or.inl rfl) (pe_cD D_one_then (hr.less (by decide)) rfl (pa_cons (pv 3) (pa_cons (pv 5) pa_nil))))
       (pss_one (ps_if (pt_cmp (pc_dnotin hr.u1 (pv 6) (pv 1)) rfl)
        (pss_cons (ps_if (pt_cmpR op_eq (pe_callB call_len_dT (by rfl) B.len_ (by decide +kernel) (pa_cons (pv 1) pa_nil)) (pe_glob (v := .int (60)) (u := .int (60) B.MOST_FAMILY_.choose) (by rfl) B.MOST_FAMILY_.choose_spec ⟨_, rfl⟩) (nomark _))
          (pss_one ps_never)
          pss_nil)
        (pss_cons (ps_dput hr.u1 (pv 1) (pv 6) (pe_op op_catU (pe_dget hr.u1 (pv 1) (pv 3) (fun _ _ => rfl)) (pe_tup (pa_cons (pv 4) pa_nil))) rfl)
        (pss_one (ps_expr (kk (K := K) (F := fun K => tBM K "list" _ _ _) (P := PE _ _) (pe_bm PySem.F.plainAttrs_list PySem.F.slot_list_append PySem.F.type_list_append mt_append (pv 2) (pa_cons (pv 6) pa_nil)))))))
        pss_nil)))))))
    (pss_one (ps_ret (pv 1)))))), ?_⟩)
  · obtain ⟨T, rs, S, rfl, _⟩ := h; rfl
  · obtain ⟨T, rs, S, rfl, g, r1, r4, s1, s5, few, q⟩ := h
    have hT := g.top
    have a0 : atI (rs.map fun x => V.ref x.1) 0 = some (.ref rs[0].1) := at_of (j := 0) rfl (refs_at (by omega))
    obtain ⟨k1, k2, k3⟩ := g.rows rs[0] (List.getElem_mem (by omega))
    have hl0 : ((iN rs[0].2).map V.int).length = S := by rw [iN_len, k2]
    have dts := g.dts
    have ml : (gr rs).length = rs.length := by unfold gr; rw [List.length_map]
    try walk_at "go"
    intro D hD
    generalize eH1 : upd _ D _ = H1
    have SH1 := newS eH1 hD
    have oD := newO eH1
    have hT1 := SH1 _ _ hT
    have k11 := SH1 _ _ k1
    try walk_at "go"
    intro F hF
    generalize eH2 : upd _ F _ = H2
    have SH2 := newS eH2 hF
    have oF := newO eH2
    rw [hl0, rg_iN] at oF
    try walk_at "go"
    intro E hE
    generalize eH3 : upd _ E _ = H3
    have SH3 := newS eH3 hE
    have oE := newO eH3
    have oD3 := SH3 _ _ (SH2 _ _ oD)
    have oF3 : H3 F = some (.tup ((kN (List.range S)).map kV)) := by rw [kN_kV]; exact SH3 _ _ oF
    try walk_at "go"
    generalize eH4 : upd H3 D (HO.dT [(kN (List.range S), .ref E)]) = H4
    have BH4 : But D H3 H4 := eH4 ▸ But.upd
    have oH4 : H4 D = some (HO.dT [(kN (List.range S), .ref E)]) := eH4 ▸ upd_same
    have S4 : Same H H4 := but_same hD (SH1.trans (SH2.trans SH3)) BH4
    have nED : E ≠ D := fun z => by rw [z, SH2 _ _ oD] at hE; cases hE
    have oE4 : H4 E = some (.tup []) := BH4 _ _ nED oE
    have rdD : Rd H4 D (.dT ((fq [((List.range S, []), E)]).map fun x => (kN x.1, V.ref x.2))) := .inl oH4
    try walk_at "go"
    intro L bs hLn0 hkeys
    obtain ⟨ls0, rfl, e2, hr0⟩ := keys_rows2 (fs := fq [((List.range S, []), E)]) hkeys
    rw [List.map_map]
    generalize eH5 : upd H4 L (HO.lst (ls0.map (V.ref ∘ fun x => x.1))) = H5
    have SH5 := newS eH5 hLn0
    have oL : H5 L = some (.lst (ls0.map fun x => V.ref x.1)) := newO eH5
    clear eH5
    have hLn : H L = none := none_back S4 hLn0
    try walk_at "go"
    refine ⟨GrW S (gr rs) T D H, ⟨_, [((List.range S, []), E)], ls0, L, 0, _, _, _, _, rfl, S4.trans SH5, ⟨SH5 _ _ oH4, fun x hx => ?_⟩, rfl, by show 1 ≤ 60; decide, oL, hr0.same SH5, e2, Nat.zero_le _, fun k h => absurd h (Nat.not_lt_zero _), rfl, hLn⟩, ?_⟩
    · cases List.mem_singleton.mp hx
      exact SH5 _ _ oE4
    rintro m σ H6 ⟨fs, ls, L, n, w3, w4, w5, w6, rfl, S6, F6, eF, f60, hL6, hR6, els, nf, bel, rfl, hLn⟩
    try walk_at "go"
    intro Z hZ
    generalize eH7 : upd _ Z _ = H7
    have SH7 := newS eH7 hZ
    have oZ := newO eH7
    have F7 := F6.same SH7
    have F7t := F7.top
    have hL7 := SH7 _ _ hL6
    have dL : Dp K H7 (.ref L) (lsD ls) := lsD_dp hL7 (hR6.same SH7)
    have shL : SeqAt.shaped (lsD ls) = true := lsD_ly.sh
    have lenF : fs.length = (gp S (gr rs) n).length := by rw [← eF, fpf_len]
    have lenL : ls.length = fs.length - n := by rw [← List.length_map (f := fun x : Addr × List Nat => x.2), els, List.length_drop, kf_len, lenF]
    try walk_at "go"
    by_cases hne : ls = []
    · have e0 : (!PyData.eqv (lsD ls) (.list [])) = false := by subst hne; rfl
      refine ifF e0 ?_
      try walk_at "go"
      have : n = fs.length := by rw [hne] at lenL; have z : ([] : List (Addr × List Nat)).length = 0 := rfl; omega
      exact q D fs n H7 (S6.trans SH7) hD F7 eF ⟨by omega, bel⟩ f60
    have e1 : (!PyData.eqv (lsD ls) (.list [])) = true := by
      cases ls with
      | nil => exact absurd rfl hne
      | cons a b => rfl
    refine ifT e1 ?_
    obtain ⟨⟨a, d⟩, ls', rfl⟩ : ∃ x l', ls = x :: l' := by
      cases ls with
      | nil => exact absurd rfl hne
      | cons a b => exact ⟨a, b, rfl⟩
    have ll' : ((a, d) :: ls').length = ls'.length + 1 := rfl
    have nlt : n < (gp S (gr rs) n).length := by omega
    obtain ⟨w, ew⟩ : ∃ w, (gp S (gr rs) n)[n]? = some (d, w) := by
      have e3 : ((kf (gp S (gr rs) n)).drop n)[0]? = some d := by rw [← els] <;> rfl
      rw [List.getElem?_drop, Nat.add_zero] at e3
      unfold kf at e3
      rw [List.getElem?_map] at e3
      obtain ⟨⟨d', w'⟩, h1, h2⟩ := Option.map_eq_some_iff.mp e3
      have : d' = d := h2
      subst this
      exact ⟨w', h1⟩
    have dwm := List.mem_of_getElem? ew
    have gq0 := gp_gq (S := S) (M := gr rs) n
    have dkf : d ∈ kf (gp S (gr rs) n) := List.mem_map.mpr ⟨_, dwm, rfl⟩
    have dd : Dt S d := (gq0.rc d dkf).dt dts
    have hdl := dd.1
    refine ⟨fun σ' H' => Kept (∃ m', m' < 61 - n ∧ GrW S (gr rs) T D H m' σ' H'), fun _ _ h => h.ex, ?_⟩
    have nDL : D ≠ L := ne_of F7t hL7 (by intro z; cases z)
    have hsx : seqIndex? (0 : Int) (((a, d) :: ls').map fun x => V.ref x.1).length = some 0 := (ixN_seq (ixn (n := (((a, d) :: ls').map fun x => V.ref x.1).length) (j := 0) (by rw [List.length_map]; omega))).1
    have hxe : (((a, d) :: ls').map fun x => V.ref x.1)[0]? = some (.ref a) := rfl
    try walk_at "go"
    generalize eH8 : upd H7 L (HO.lst ((((a, d) :: ls').map fun x => V.ref x.1).eraseIdx 0)) = H8
    have BH8 : But L H7 H8 := eH8 ▸ But.upd
    have oH8 : H8 L = some (HO.lst ((((a, d) :: ls').map fun x => V.ref x.1).eraseIdx 0)) := eH8 ▸ upd_same
    have oL8 : H8 L = some (.lst (ls'.map fun x => V.ref x.1)) := oH8
    have tk8 : ∀ t xs, H7 t = some (.tup xs) → H8 t = some (.tup xs) := fun t xs z => BH8 _ _ (ne_of z hL7 (by intro z; cases z)) z
    have S8 : Same H H8 := fun b o z => BH8 _ _ (ne_of_none z hLn) (SH7 _ _ (S6 _ _ z))
    have F8 : FpAt H8 D fs := ⟨BH8 _ _ nDL F7t, fun x hx => tk8 _ _ (F7.wd x hx)⟩
    have hR8 : RsAt H8 ls' := fun x hx => tk8 _ _ (SH7 _ _ (hR6 x (List.mem_cons_of_mem _ hx)))
    have had8 : H8 a = some (.tup ((iN d).map V.int)) := tk8 _ _ (SH7 _ _ (hR6 (a, d) List.mem_cons_self))
    have els8 : ls'.map (fun x => x.2) = (kf (gp S (gr rs) n)).drop (n + 1) := by
      have : ((a, d) :: ls').map (fun x => x.2) = d :: ls'.map (fun x => x.2) := rfl
      rw [this] at els
      rw [← List.drop_drop, ← els] <;> rfl
    have hT8 := S8 _ _ hT
    try walk_at "go"
    refine for_enumT (K := K) (a := T) (xs := rs.map fun x => V.ref x.1) (fun j σ H' => Kept (∃ fs' ls' w4 w5 w6, σ = [some (.ref T), some (.ref D), some (.ref L), some (.ref a), w4, w5, w6] ∧ Same H H' ∧ FpAt H' D fs' ∧ fpf fs' = apn (gr rs) d w j (gp S (gr rs) n) ∧ fs'.length ≤ 60 ∧ H' L = some (.lst (ls'.map fun x : Addr × List Nat => V.ref x.1)) ∧ RsAt H' ls' ∧ ls'.map (fun x => x.2) = (kf (apn (gr rs) d w j (gp S (gr rs) n))).drop (n + 1) ∧ H' a = some (.tup ((iN d).map V.int)))) ⟨fs, ls', _, _, _, rfl, S8, F8, eF, f60, oL8, hR8, els8, had8⟩ (fun j σ H' _ h => by obtain ⟨_, _, _, _, _, _, S, _⟩ := h.ex; exact SqT.of (S _ _ hT)) ?_ ?_
    · rintro j y P σ H9 hy ⟨fs', ls'', w4, w5, w6, rfl, S9, F9, eF9, f9, hL9, hR9, els9, had9⟩ hP
      rw [List.getElem?_map] at hy
      obtain ⟨⟨b, m⟩, hb, rfl⟩ := Option.map_eq_some_iff.mp hy
      have hjr : j < rs.length := (List.getElem?_eq_some_iff.mp hb).1
      have hm : (gr rs).getD j [] = m := by
        have := gr_at (rs := rs) hjr
        rw [this, (List.getElem?_eq_some_iff.mp hb).2]
      obtain ⟨g1, g2, g3⟩ := g.rows _ (List.mem_of_getElem? hb)
      generalize eH10 : upd _ P (HO.tup [.int (j : Nat), .ref b]) = H10
      have SH10 := newS eH10 hP
      have oP := newO eH10
      have hb10 := SH10 _ _ (S9 _ _ g1)
      have ha10 := SH10 _ _ had9
      have hbel : Bel d m.length := by rw [g2]; exact dd.2
      have hd100 : d.length ≤ 100 := by omega
      try walk_at "go"
      intro U H11 S11 hUn hU
      have F11 := (F9.same SH10).same S11
      have F11t := F11.top
      have S911 := SH10.trans S11
      have gqj := gq0.apn dwm j (by omega)
      have gqj1 := gq0.apn dwm (j + 1) (by omega)
      have nxt : apn (gr rs) d w (j + 1) (gp S (gr rs) n) = ap1 (apn (gr rs) d w j (gp S (gr rs) n)) (thn d m, w ++ [j]) := by rw [← hm] <;> rfl
      have dwj : (d, w) ∈ apn (gr rs) d w j (gp S (gr rs) n) := (apn_pre j _).subset dwm
      have lp := (apn_pre (M := gr rs) (d := d) (w := w) j (gp S (gr rs) n)).length_le
      generalize apn (gr rs) d w j (gp S (gr rs) n) = F at eF9 els9 gqj nxt dwj lp
      have hUk : H11 U = some (.tup ((kN (thn d m)).map kV)) := by rw [kN_kV]; exact hU
      have gU := DGet.t F11t hUk
      have lenF9 : fs'.length = F.length := by rw [← eF9, fpf_len]
      by_cases cin : thn d m ∈ kf F
      · have cin2 : thn d m ∈ ks (fq fs') := by rw [fq_ks, eF9]; exact cin
        obtain ⟨x, _, _, e2⟩ := fd_some cin2
        rw [e2] at gU
        have e3 : ap1 F (thn d m, w ++ [j]) = F := by unfold ap1; rw [if_pos cin]
        rw [e3] at nxt
        try walk_at "go"
        refine ifF rfl ?_
        exact ⟨⟨fs', ls'', _, _, _, rfl, S9.trans S911, F11, by rw [nxt]; exact eF9, f9, S911 _ _ hL9, hR9.same S911, by rw [nxt]; exact els9, S911 _ _ had9⟩⟩
      · have cin2 : thn d m ∉ ks (fq fs') := by rw [fq_ks, eF9]; exact cin
        rw [fd_none cin2] at gU
        have e3 : ap1 F (thn d m, w ++ [j]) = F ++ [(thn d m, w ++ [j])] := by unfold ap1; rw [if_neg cin]
        rw [e3] at nxt
        have c61 := few.le dts s1 s5 gqj1.nd gqj1.rc
        rw [nxt, kf_len, List.length_append] at c61
        have c60 : fs'.length + 1 ≤ 60 := by rw [lenF9]; exact c61
        have dk : d ∈ ks (fq fs') := by rw [fq_ks, eF9]; exact List.mem_map.mpr ⟨_, dwj, rfl⟩
        obtain ⟨x0, hx0, e0, ev⟩ := fd_some dk
        obtain ⟨y0, hy0, ey0⟩ := List.mem_map.mp hx0
        have hw := F11.wd y0 hy0
        have ew0 : y0.1.2 = w := by
          refine kf_uniq (F := F) (d := d) gqj.nd ?_ dwj
          rw [← eF9]
          refine List.mem_map.mpr ⟨y0, hy0, ?_⟩
          have : y0.1.1 = d := by rw [← e0, ← ey0]
          rw [← this]
        rw [ew0, show y0.2 = x0.2 by rw [← ey0]] at hw
        have hak : H11 a = some (.tup ((kN d).map kV)) := by rw [kN_kV]; exact S911 _ _ had9
        have gd := DGet.t F11t hak
        rw [ev] at gd
        have wlen : w.length < 60 := by have := gqj.wl _ dwj; have e5 : (d, w).2.length = w.length := rfl; omega
        have n60 : decide (V.int (((fq fs').map fun x => (kN x.1, V.ref x.2)).length : Nat) = V.int 60) = false := decide_eq_false fun z => by
          have := V.int.inj z
          rw [List.length_map, fq_len] at this
          omega
        try walk_at "go"
        refine ifF n60 ?_
        try walk_at "go"
        intro N hN
        generalize eH12 : upd _ N _ = H12
        have SH12 := newS eH12 hN
        have oN := newO eH12
        have hw12 := SH12 _ _ hw
        have hcat : ((iN w).map V.int).length + [V.int (j : Nat)].length ≤ sizeLine := small (by rw [iN_len]; show w.length + 1 ≤ 1000; omega)
        try walk_at "go"
        intro W H13 S13 hW
        rw [iN_snoc] at hW
        have S1113 := SH12.trans S13
        have F13 := F11.same S1113
        have F13t := F13.top
        have hUk13 := S1113 _ _ hUk
        have put := DPut.t (v := .ref W) F13t hUk13 (small1000 (by rw [List.length_map, fq_len]; omega))
        rw [putK_new _ (fd_none cin2)] at put
        have hL13 := S1113 _ _ (S911 _ _ hL9)
        have ul : (ls''.map fun x => V.ref x.1).length ≤ 100 := by
          have e7 := congrArg List.length els9
          rw [List.length_map, List.length_drop, kf_len] at e7
          rw [List.length_map]
          omega
        try walk_at "go"
        generalize eH14 : upd H13 D (HO.dT (((fq fs').map fun x => (kN x.1, V.ref x.2)) ++ [(kN (thn d m), .ref W)])) = H14
        have BH14 : But D H13 H14 := eH14 ▸ But.upd
        have oH14 : H14 D = some (HO.dT (((fq fs').map fun x => (kN x.1, V.ref x.2)) ++ [(kN (thn d m), .ref W)])) := eH14 ▸ upd_same
        have hL14 := BH14 _ _ (Ne.symm nDL) hL13
        try walk_at "go"
        generalize eH15 : upd H14 L (HO.lst (ls''.map (fun x => V.ref x.1) ++ [.ref U])) = H15
        have BH15 : But L H14 H15 := eH15 ▸ But.upd
        have oH15 : H15 L = some (HO.lst (ls''.map (fun x => V.ref x.1) ++ [.ref U])) := eH15 ▸ upd_same
        have tk : ∀ t xs, H13 t = some (.tup xs) → H15 t = some (.tup xs) := fun t xs z => by
          have z2 := BH14 _ _ (ne_of z F13t (by intro z; cases z)) z
          exact BH15 _ _ (ne_of z2 hL14 (by intro z; cases z)) z2
        have S1313 : Same H H13 := S9.trans (S911.trans S1113)
        refine ⟨⟨fs' ++ [((thn d m, w ++ [j]), W)], ls'' ++ [(U, thn d m)], _, _, _, rfl, fun b o z => ?_, ⟨?_, fun x hx => ?_⟩, by rw [nxt, fpf_snoc, eF9], by rw [List.length_append]; exact c60, by rw [oH15, List.map_append] <;> rfl, fun x hx => ?_, ?_, tk _ _ (S1113 _ _ (S911 _ _ had9))⟩⟩
        · exact BH15 _ _ (ne_of_none z hLn) (BH14 _ _ (ne_of_none z hD) (S1313 _ _ z))
        · rw [BH15 _ _ nDL oH14]
          unfold fq
          rw [List.map_append, List.map_append] <;> rfl
        · rcases List.mem_append.mp hx with z | z
          · exact tk _ _ (F13.wd x z)
          · cases List.mem_singleton.mp z
            exact tk _ _ hW
        · rcases List.mem_append.mp hx with z | z
          · exact tk _ _ (S1113 _ _ (S911 _ _ (hR9 x z)))
          · cases List.mem_singleton.mp z
            exact tk _ _ (S1113 _ _ hU)
        · rw [nxt, kf_snoc, List.map_append, els9, List.drop_append_of_le_length (by rw [kf_len]; omega)] <;> rfl
    · rintro σ H9 ⟨fs', ls'', w4, w5, w6, rfl, S9, F9, eF9, f9, hL9, hR9, els9, had9⟩
      rw [List.length_map, ← ml, ← gp_next ew] at eF9 els9
      have l9 : fs'.length = (gp S (gr rs) (n + 1)).length := by rw [← eF9, fpf_len]
      have pl := (gp_pre1 (S := S) (M := gr rs) n).length_le
      refine ⟨⟨_, ?_, fs', ls'', L, n + 1, _, _, _, _, rfl, S9, F9, eF9, f9, hL9, hR9, els9, by omega, fun k hk => ?_, rfl, hLn⟩⟩
      · omega
      · rcases Nat.lt_or_ge k n with c | c
        · exact bel k c
        · obtain rfl : k = n := by omega
          exact nlt
/-- a family, told -/
structure FaAt (S : Nat) (M : List (List Nat)) (H : Hp) (T : Addr) (ls : List (Addr × List Nat)) (n : Nat) : Prop where
  top : H T = some (.tup (ls.map fun x => V.ref x.1))
  rs : RsAt H ls
  eq : ls.map (fun x => x.2) = kf (gp S M n)
  fin : Fin' S M n
  n60 : ls.length ≤ 60
omit B in
theorem FaAt.same {S : Nat} {M : List (List Nat)} {H H' : Hp} {T : Addr} {ls : List (Addr × List Nat)} {n : Nat} (a : FaAt S M H T ls n) (e : Same H H') : FaAt S M H' T ls n := ⟨e _ _ a.top, a.rs.same e, a.eq, a.fin, a.n60⟩
omit B in
theorem FaAt.keep {S : Nat} {M : List (List Nat)} {H H' : Hp} {T : Addr} {ls : List (Addr × List Nat)} {n : Nat} (a : FaAt S M H T ls n) (e : ∀ t xs, H t = some (.tup xs) → H' t = some (.tup xs)) : FaAt S M H' T ls n := ⟨e _ _ a.top, fun x hx => e _ _ (a.rs x hx), a.eq, a.fin, a.n60⟩
omit B in
theorem FaAt.fam {S : Nat} {M : List (List Nat)} {H : Hp} {T : Addr} {ls : List (Addr × List Nat)} {n : Nat} (a : FaAt S M H T ls n) : Fam S M (gr ls) := by
  have : gr ls = kf (gp S M n) := a.eq
  rw [this]
  exact a.fin.fam
omit B in
theorem FaAt.grid {S : Nat} {M : List (List Nat)} {H : Hp} {T : Addr} {ls : List (Addr × List Nat)} {n : Nat} (a : FaAt S M H T ls n) (hM : ∀ m ∈ M, Dt S m) : GridAt H T ls S S := ⟨a.top, fun x hx => ⟨a.rs x hx, (a.fam.rch _ (List.mem_map.mpr ⟨x, hx, rfl⟩)).dt hM⟩⟩
omit B in
theorem FaAt.n1 {S : Nat} {M : List (List Nat)} {H : Hp} {T : Addr} {ls : List (Addr × List Nat)} {n : Nat} (a : FaAt S M H T ls n) : 1 ≤ ls.length := by
  have := List.length_pos_of_mem a.fam.one
  unfold gr at this
  rwa [List.length_map] at this
def spFamily (K : PySem.W.Frag) : Sp := fun vs H Q _ => ∃ (T : Addr) (rs : List (Addr × List Nat)) (S : Nat), vs = [.ref T] ∧ GridAt H T rs S S ∧ 1 ≤ rs.length ∧ rs.length ≤ 4 ∧ 1 ≤ S ∧ S ≤ 5 ∧ Few S (gr rs) ∧
  ∀ U ls n H', Same H H' → FaAt S (gr rs) H' U ls n → Q (.ref U) H'
theorem k_family (D : Df K mg "family" s_family ["deeds"]) (D_want_makers : Dn P w K mg base 4 "want_makers" ["deeds"] (spWantMk K)) (D_grown : Dn P w K mg base 2 "grown" ["deeds"] (spGrown K)) : Dn P w K mg base 5 "family" ["deeds"] (spFamily K) := by
  refine D.ok fun f fd F => okG0 F sc_family (fun vs H Q E h => ?_) (fun cdv A outer s H vs Q E hr h => ⟨_, (pss_cons (ps_expr (pe_cD D_want_makers (hr.less (by decide)) rfl (pa_cons (pv 0) pa_nil)))
    (pss_one (ps_ret (pe_callTy (call_tup_dT rfl) (by rfl) B.tuple_ (by decide +kernel) (pa_cons (pe_cD D_grown (hr.less (by decide)) rfl (pa_cons (pv 0) pa_nil)) pa_nil))))), ?_⟩)
  · obtain ⟨T, rs, S, rfl, _⟩ := h; rfl
  · obtain ⟨T, rs, S, rfl, g, r1, r4, s1, s5, few, q⟩ := h
    try walk_at "go"
    intro H1 S1
    have g1 := g.same S1
    try walk_at "go"
    intro D fs n H2 S2 hDn F2 eF fin f60
    have F2t := F2.top
    try walk_at "go"
    intro U bs hU hkeys
    obtain ⟨ls0, rfl, e2, hr0⟩ := keys_rows2 hkeys
    rw [List.map_map]
    generalize eH3 : upd H2 U (HO.tup (ls0.map (V.ref ∘ fun x => x.1))) = H3
    have SH3 := newS eH3 hU
    have oU : H3 U = some (.tup (ls0.map fun x => V.ref x.1)) := newO eH3
    clear eH3
    have e3 : ls0.map (fun x => x.2) = kf (gp S (gr rs) n) := by rw [e2, fq_ks, eF]
    exact q U ls0 n H3 (S1.trans (S2.trans SH3)) ⟨oU, hr0.same SH3, e3, fin, by rw [← List.length_map (f := fun x : Addr × List Nat => x.2), e2, ks_len, fq_len]; exact f60⟩
/-- a table of pairs of a family -/
def OwnT (F tb : List (List Nat)) : Prop := ∀ i j, i < F.length → j < F.length → F.getD ((tb.getD i []).getD j 0) [] = thn (F.getD i []) (F.getD j [])
def spOwn (K : PySem.W.Frag) : Sp := fun vs H Q _ => ∃ (T : Addr) (rs : List (Addr × List Nat)) (S : Nat), vs = [.ref T] ∧ GridAt H T rs S S ∧ 1 ≤ rs.length ∧ rs.length ≤ 4 ∧ 1 ≤ S ∧ S ≤ 5 ∧ Few S (gr rs) ∧
  ∀ U ts n H', Same H H' → GridAt H' U ts (gp S (gr rs) n).length (gp S (gr rs) n).length → ts.length = (gp S (gr rs) n).length → Fin' S (gr rs) n → OwnT (kf (gp S (gr rs) n)) (gr ts) → Q (.ref U) H'
theorem k_own_table (D : Df K mg "own_table" s_own_table ["deeds"]) (D_family : Dn P w K mg base 5 "family" ["deeds"] (spFamily K)) (D_one_then : Dn P w K mg base 1 "one_then" ["one", "other"] spThen6) : Dn P w K mg base 6 "own_table" ["deeds"] (spOwn K) := by
  refine D.ok fun f fd F => okG0 F sc_own_table (fun vs H Q E h => ?_) (fun cdv A outer s H vs Q E hr h => ⟨_, (pss_cons (ps_set (i := 1) sc_own_table.nd rfl (Or.inr rfl) (pe_cD D_family (hr.less (by decide)) rfl (pa_cons (pv 0) pa_nil)))
    (pss_cons (ps_set (i := 2) sc_own_table.nd rfl (Or.inr rfl) (pe_callTy (call_dictPT rfl hr.u2) (by rfl) B.dict_ (by decide +kernel) (pa_cons (pe_lc (own := [("number", 3), ("deed", 4)]) (tt := tYes) rfl sc_own_table.nd (kk (K := K) (F := fun K => iEnumT K _) (P := PI _ _ _) (pi_enumT (by rfl) B.enumerate_ (pa_cons (pv 1) pa_nil))) (blkOk_by (own := [("number", 3), ("deed", 4)]) (N := ["deeds", "some", "number_of", "number", "deed", "one", "other"]) (sc := defScope s_own_table) (by decide +kernel)) (fun _ _ _ _ _ => (kk (K := K) (F := fun K => gTup K 2 _) (P := PG _ _) (pg_tup rfl (pgs_cons (pg_name (i := 3) sc_own_table.nd rfl (Or.inl rfl)) (pgs_cons (pg_name (i := 4) sc_own_table.nd rfl (Or.inl rfl)) pgs_nil))))) (fun _ _ _ _ _ => pts_nil) (fun _ _ _ _ _ => (pe_tup (pa_cons (pv 4) (pa_cons (pv 3) pa_nil))))) pa_nil)))
    (pss_one (ps_ret (pe_callTy (tupOfK (K := K)) (by rfl) B.tuple_ (by decide +kernel) (pa_cons (pe_lc (own := [("one", 5)]) (g := gName 5) (tt := tYes) rfl sc_own_table.nd (kk (K := K) (F := fun K => iTup K _) (P := PI _ _ _) (pi_tup (pv 1))) (blkOk_by (own := [("one", 5)]) (N := ["deeds", "some", "number_of", "number", "deed", "one", "other"]) (sc := defScope s_own_table) (by decide +kernel)) (fun _ _ _ _ _ => (pg_name (i := 5) sc_own_table.nd rfl (Or.inr rfl))) (fun _ _ _ _ _ => pts_nil) (fun _ _ _ _ _ => (pe_callTy (tupOfK (K := K)) (by rfl) B.tuple_ (by decide +kernel) (pa_cons (pe_lc (own := [("other", 6)]) (g := gName 6) (tt := tYes) rfl sc_own_table.nd (kk (K := K) (F := fun K => iTup K _) (P := PI _ _ _) (pi_tup (pv 1))) (blkOk_nest (own := [("other", 6)]) (N := ["deeds", "some", "number_of", "number", "deed", "one", "other"]) rfl (by decide +kernel)) (fun _ _ _ _ _ => (pg_name (i := 6) sc_own_table.nd rfl (Or.inl rfl))) (fun _ _ _ _ _ => pts_nil) (fun _ _ _ _ _ => (pe_dget hr.u1 (pv 2) (pe_cD D_one_then (hr.less (by decide)) rfl (pa_cons (pv 5) (pa_cons (pv 6) pa_nil))) (fun _ _ => rfl)))) pa_nil)))) pa_nil)))))), ?_⟩)
  · obtain ⟨T, rs, S, rfl, _⟩ := h; rfl
  · obtain ⟨T, rs, S, rfl, g, r1, r4, s1, s5, few, q⟩ := h
    try walk_at "go"
    intro A ls n H1 S1 F1
    have len : ls.length = (gp S (gr rs) n).length := by rw [← kf_len, ← F1.eq, List.length_map]
    have n60 := F1.n60
    have fam := F1.fam
    have hA := F1.top
    have hr := F1.rs
    have mem : ∀ x ∈ ls, x.2 ∈ gr ls := fun x hx => List.mem_map.mpr ⟨x, hx, rfl⟩
    have dts : ∀ x ∈ ls, Dt S x.2 := fun x hx => (fam.rch _ (mem x hx)).dt g.dts
    have ll : (ls.map fun x => V.ref x.1).length = ls.length := List.length_map _
    try walk_at "go"
    intro E hE
    refine lc_it (I := IteT K A) (n := ls.length) (fun i H' => Kept (∃ ps : List Addr, Same H1 H' ∧ H' E = some (.lst (ps.map V.ref)) ∧ ps.length = i ∧ ∀ (j : Nat) (t : Addr) (x : Addr × List Nat), ps[j]? = some t → ls[j]? = some x → H' t = some (.tup [.ref x.1, .int (j : Nat)]))) ⟨[], same_new hE _, upd_same, rfl, fun j t x h => by simp at h⟩ ?_ ?_ ?_ ?_
    · rintro i H8 hi ⟨ps, S8, _⟩
      exact ⟨_, _, SqT.of (S8 _ _ hA), by rw [List.getElem?_map, List.getElem?_eq_getElem hi] <;> rfl⟩
    · rintro H8 ⟨ps, S8, _⟩
      exact ⟨_, SqT.of (S8 _ _ hA), by rw [List.length_map]⟩
    · rintro i v H8 H8' hi ⟨ps, S8, hE8, hl8, hp8⟩ ⟨P, x0, rfl, hP, rfl, hv⟩
      have hv := hv _ (SqT.of (S8 _ _ hA))
      rw [List.getElem?_map] at hv
      obtain ⟨x, hx, rfl⟩ := Option.map_eq_some_iff.mp hv
      have ul : (ps.map V.ref).length ≤ 60 := by rw [List.length_map]; omega
      generalize eH9 : upd _ P (HO.tup [.int (i : Nat), .ref x.1]) = H9
      have SH9 := newS eH9 hP
      have oP := newO eH9
      try walk_at "go"
      intro R hR
      generalize eH10 : upd _ R _ = H10
      have SH10 := newS eH10 hR
      have oR := newO eH10
      have S10 := SH9.trans SH10
      have hE10 := S10 _ _ hE8
      try walk_at "go"
      refine ⟨⟨ps ++ [R], but_same hE (S8.trans S10) But.upd, by rw [upd_same, List.map_append] <;> rfl, by rw [List.length_append, hl8] <;> rfl, fun j t y h1 h2 => ?_⟩⟩
      have tk : ∀ t xs, H10 t = some (.tup xs) → upd H10 E (.lst (ps.map V.ref ++ [.ref R])) t = some (.tup xs) := fun t xs z => by rw [upd_ne (ne_of z hE10 (by intro z; cases z))]; exact z
      by_cases c : j < ps.length
      · rw [List.getElem?_append_left c] at h1
        exact tk _ _ (S10 _ _ (hp8 j t y h1 h2))
      · rw [List.getElem?_append_right (by omega)] at h1
        have : j = i := by
          have h3 := (List.getElem?_eq_some_iff.mp h1).1
          have h5 : [R].length = 1 := rfl
          omega
        subst this
        rw [hl8, Nat.sub_self] at h1
        cases (Option.some.inj h1)
        rw [hx] at h2
        cases (Option.some.inj h2)
        exact tk _ _ oR
    rintro H8 ⟨ps, S8, hE8, hl8, hp8⟩
    have hr8 := hr.same S8
    have rdt : RowsDT H8 ps (nrows ls) := by
      refine ⟨by rw [hl8, nrows_len], fun j t y h1 h2 => ?_⟩
      obtain ⟨x, hx, rfl⟩ := nrows_at h2
      exact ⟨hp8 j t x h1 hx, by show H8 x.1 = some (.tup ((kN x.2).map kV)); rw [kN_kV]; exact hr8 x (List.mem_of_getElem? hx)⟩
    try walk_at "go"
    intro DD hDD
    generalize eH9 : upd _ DD _ = H9
    have SH9 := newS eH9 hDD
    have oDD := newO eH9
    have S19 := S8.trans SH9
    have hA9 := S19 _ _ hA
    have hr9 := hr.same S19
    try walk_at "go"
    intro E2 hE2
    refine lc_tup (K := K) (a := A) (xs := ls.map fun x => V.ref x.1) (fun i H' => Kept (∃ rs3 : List (Addr × List Nat), Same H9 H' ∧ H' E2 = some (.lst (rs3.map fun x => V.ref x.1)) ∧ rs3.length = i ∧ RsAt H' rs3 ∧ (∀ x ∈ rs3, Dt ls.length x.2) ∧ ∀ i' j, i' < i → j < ls.length → (gr ls).getD (((gr rs3).getD i' []).getD j 0) [] = thn ((gr ls).getD i' []) ((gr ls).getD j []))) ⟨[], same_new hE2 _, upd_same, rfl, fun x hx => absurd hx List.not_mem_nil, fun x hx => absurd hx List.not_mem_nil, fun i' j h => absurd h (Nat.not_lt_zero _)⟩ (fun i H' _ h => by obtain ⟨_, S, _⟩ := h.ex; exact SqT.of (S _ _ hA9)) ?_ ?_
    · rintro i v H10 hv ⟨rs3, S10, hE10, hl10, hr10, hd10, ho10⟩
      rw [List.getElem?_map] at hv
      obtain ⟨⟨a, d⟩, ha, rfl⟩ := Option.map_eq_some_iff.mp hv
      have hi : i < ls.length := (List.getElem?_eq_some_iff.mp ha).1
      have gi : (gr ls).getD i [] = d := by rw [gr_at hi, (List.getElem?_eq_some_iff.mp ha).2]
      have aM := List.mem_of_getElem? ha
      have dd := dts _ aM
      have ul : (rs3.map fun x => V.ref x.1).length ≤ 60 := by rw [List.length_map]; omega
      have hA10 := S10 _ _ hA9
      try walk_at "go"
      intro G hG
      refine lc_tup (K := K) (a := A) (xs := ls.map fun x => V.ref x.1) (fun j H' => Kept (∃ w : List Nat, Same H10 H' ∧ H' G = some (.lst ((iN w).map V.int)) ∧ w.length = j ∧ Bel w ls.length ∧ ∀ j', j' < j → (gr ls).getD (w.getD j' 0) [] = thn d ((gr ls).getD j' []))) ⟨[], same_new hG _, upd_same, rfl, fun x hx => absurd hx List.not_mem_nil, fun j' h => absurd h (Nat.not_lt_zero _)⟩ (fun j H' _ h => by obtain ⟨_, S, _⟩ := h.ex; exact SqT.of (S _ _ hA10)) ?_ ?_
      · rintro j v2 H11 hv2 ⟨w, S11, hG11, hl11, hb11, ho11⟩
        rw [List.getElem?_map] at hv2
        obtain ⟨⟨b, e⟩, hb, rfl⟩ := Option.map_eq_some_iff.mp hv2
        have hj : j < ls.length := (List.getElem?_eq_some_iff.mp hb).1
        have gj : (gr ls).getD j [] = e := by rw [gr_at hj, (List.getElem?_eq_some_iff.mp hb).2]
        have bM := List.mem_of_getElem? hb
        have de := dts _ bM
        have S911 := S10.trans S11
        have ha11 := S911 _ _ (hr9 _ aM)
        have hb11' := S911 _ _ (hr9 _ bM)
        have oDD11 := S911 _ _ oDD
        have bl : Bel d e.length := by rw [de.1]; exact dd.2
        have l100 : d.length ≤ 100 := by rw [dd.1]; omega
        have ul : ((iN w).map V.int).length ≤ 60 := by rw [iN_len]; omega
        try walk_at "go"
        intro U H12 S12 hUn hU
        have hUk : H12 U = some (.tup ((kN (thn d e)).map kV)) := by rw [kN_kV]; exact hU
        have gd := DGet.t (S12 _ _ oDD11) hUk
        obtain ⟨k, x, hk, ek, ev⟩ := nrows_val (ls := ls) (d := thn d e) (fam.mul g.dts (mem _ aM) (mem _ bM))
        rw [ev] at gd
        have hkl : k < ls.length := (List.getElem?_eq_some_iff.mp hk).1
        have hG12 := S12 _ _ hG11
        try walk_at "go"
        refine ⟨⟨w ++ [k], but_same hG (S11.trans S12) But.upd, by rw [upd_same, iN_snoc], by rw [List.length_append, hl11] <;> rfl, hb11.snoc hkl, fun j' hj' => ?_⟩⟩
        rcases Nat.lt_or_ge j' j with c | c
        · rw [getD_appO (by omega)]
          exact ho11 j' c
        · obtain rfl : j' = j := by omega
          rw [getD_last hl11.symm, gj, gr_at hkl, (List.getElem?_eq_some_iff.mp hk).2, ek]
      · rintro H11 ⟨w, S11, hG11, hl11, hb11, ho11⟩
        rw [ll] at hl11 ho11
        try walk_at "go"
        intro R hR
        generalize eH12 : upd _ R _ = H12
        have SH12 := newS eH12 hR
        have oR := newO eH12
        have S1012 := S11.trans SH12
        have hE12 := S1012 _ _ hE10
        try walk_at "go"
        have tk : ∀ t xs, H12 t = some (.tup xs) → upd H12 E2 (.lst ((rs3.map fun x => V.ref x.1) ++ [.ref R])) t = some (.tup xs) := fun t xs z => by rw [upd_ne (ne_of z hE12 (by intro z; cases z))]; exact z
        have grl : (gr rs3).length = i := by unfold gr; rw [List.length_map, hl10]
        refine ⟨⟨rs3 ++ [(R, w)], but_same hE2 (S10.trans S1012) But.upd, by rw [upd_same, List.map_append] <;> rfl, by rw [List.length_append, hl10] <;> rfl, fun x hx => ?_, fun x hx => ?_, fun i' j h1 h2 => ?_⟩⟩
        · rcases List.mem_append.mp hx with z | z
          · exact tk _ _ (S1012 _ _ (hr10 x z))
          · cases List.mem_singleton.mp z
            exact tk _ _ oR
        · rcases List.mem_append.mp hx with z | z
          · exact hd10 x z
          · cases List.mem_singleton.mp z
            exact ⟨hl11, hb11⟩
        · have eg : gr (rs3 ++ [(R, w)]) = gr rs3 ++ [w] := by unfold gr; rw [List.map_append] <;> rfl
          rcases Nat.lt_or_ge i' i with c | c
          · rw [eg, getD_appO (by omega)]
            exact ho10 i' j c h2
          · obtain rfl : i' = i := by omega
            rw [eg, getD_last grl.symm, gi]
            exact ho11 j h2
    rintro H10 ⟨rs3, S10, hE10, hl10, hr10, hd10, ho10⟩
    rw [ll] at hl10 ho10
    try walk_at "go"
    intro TT hTT
    generalize eH11 : upd _ TT _ = H11
    have SH11 := newS eH11 hTT
    have oTT := newO eH11
    refine q TT rs3 n H11 (S1.trans (S19.trans (S10.trans SH11))) ⟨oTT, fun x hx => ⟨SH11 _ _ (hr10 x hx), by rw [← len]; exact hd10 x hx⟩⟩ (by rw [hl10, len]) F1.fin ?_
    have e5 : kf (gp S (gr rs) n) = gr ls := F1.eq.symm
    rw [e5]
    intro i j h1 h2
    have gl : (gr ls).length = ls.length := by unfold gr; rw [List.length_map]
    exact ho10 i j (by omega) (by omega)
/-! SPLIT -/
/-! the first pair at which a table does not hold -/
def Bd (ds tb : List (List Nat)) (i j : Nat) : Prop := ds.getD ((tb.getD i []).getD j 0) [] ≠ thn (ds.getD i []) (ds.getD j [])
def Fd (ds tb : List (List Nat)) (N : Nat) : Option (Nat × Nat) → Prop
  | none => ∀ i j, i < N → j < N → ¬ Bd ds tb i j
  | some (i, j) => i < N ∧ j < N ∧ Bd ds tb i j ∧ ∀ i' j', i' < N → j' < N → (i' < i ∨ i' = i ∧ j' < j) → ¬ Bd ds tb i' j'
omit B in
theorem Fd.uniq {ds tb : List (List Nat)} {N : Nat} {r r' : Option (Nat × Nat)} (a : Fd ds tb N r) (b : Fd ds tb N r') : r = r' := by
  match r, r', a, b with
  | none, none, _, _ => rfl
  | none, some (i, j), a, ⟨b1, b2, b3, _⟩ => exact absurd b3 (a i j b1 b2)
  | some (i, j), none, ⟨a1, a2, a3, _⟩, b => exact absurd a3 (b i j a1 a2)
  | some (i, j), some (i', j'), ⟨a1, a2, a3, a4⟩, ⟨b1, b2, b3, b4⟩ =>
    have h1 : ¬ (i' < i ∨ i' = i ∧ j' < j) := fun z => a4 i' j' b1 b2 z b3
    have h2 : ¬ (i < i' ∨ i = i' ∧ j < j') := fun z => b4 i j a1 a2 z a3
    have e1 : i = i' := by omega
    subst e1
    have e2 : j = j' := by omega
    rw [e2]
def AnsV (H : Hp) (r : Option (Nat × Nat)) (v : V) : Prop := match r with | none => v = .non | some (i, j) => ∃ U, v = .ref U ∧ H U = some (.tup [.int (i : Nat), .int (j : Nat)])
omit B in
theorem gr_row {H : Hp} {T : Addr} {rs : List (Addr × List Nat)} {M B' j : Nat} (g : GridAt H T rs M B') (h : j < rs.length) : H rs[j].1 = some (.tup ((iN ((gr rs).getD j [])).map V.int)) ∧ ((gr rs).getD j []).length = M ∧ Bel ((gr rs).getD j []) B' := by
  rw [gr_at h]
  obtain ⟨h1, h2⟩ := g.rows _ (List.getElem_mem h)
  exact ⟨h1, h2.1, h2.2⟩
omit B in
theorem refs_atI {rs : List (Addr × List Nat)} {j : Nat} (h : j < rs.length) : atI (rs.map fun x => V.ref x.1) (j : Int) = some (.ref rs[j].1) := atI_nat (refs_at h)
omit B in
theorem iN_atI {xs : List Nat} {j : Nat} (h : j < xs.length) : atI ((iN xs).map V.int) (j : Int) = some (.int (xs.getD j 0 : Nat)) := atI_nat (iN_at (getD_at h))
omit B in
theorem bd_eqv {xs ys : List Nat} : PyData.eqv (.tuple ((iN xs).map PyData.int)) (.tuple ((iN ys).map PyData.int)) = decide (xs = ys) := by
  by_cases h : xs = ys
  · subst h
    rw [decide_eq_true rfl]
    exact Ly.tupI.refl
  · rw [decide_eq_false h]
    refine Ly.ne Ly.tupI Ly.tupI fun z => h ?_
    have z2 := PyData.tuple.inj z
    unfold iN at z2
    rw [List.map_map, List.map_map] at z2
    exact (List.map_inj_right fun x y e => Int.ofNat.inj (PyData.int.inj e)).mp z2
/-! the first grouping that breaks a table -/
def Bg (tb : List (List Nat)) (i j l : Nat) : Prop := (tb.getD ((tb.getD i []).getD j 0) []).getD l 0 ≠ (tb.getD i []).getD ((tb.getD j []).getD l 0) 0
def Fg (tb : List (List Nat)) (N : Nat) : Option (Nat × Nat × Nat) → Prop
  | none => ∀ i j l, i < N → j < N → l < N → ¬ Bg tb i j l
  | some (i, j, l) => i < N ∧ j < N ∧ l < N ∧ Bg tb i j l ∧ ∀ i' j' l', i' < N → j' < N → l' < N → (i' < i ∨ i' = i ∧ (j' < j ∨ j' = j ∧ l' < l)) → ¬ Bg tb i' j' l'
omit B in
theorem Fg.uniq {tb : List (List Nat)} {N : Nat} {r r' : Option (Nat × Nat × Nat)} (a : Fg tb N r) (b : Fg tb N r') : r = r' := by
  match r, r', a, b with
  | none, none, _, _ => rfl
  | none, some (i, j, l), a, ⟨b1, b2, b3, b4, _⟩ => exact absurd b4 (a i j l b1 b2 b3)
  | some (i, j, l), none, ⟨a1, a2, a3, a4, _⟩, b => exact absurd a4 (b i j l a1 a2 a3)
  | some (i, j, l), some (i', j', l'), ⟨a1, a2, a3, a4, a5⟩, ⟨b1, b2, b3, b4, b5⟩ =>
    have h1 : ¬ (i' < i ∨ i' = i ∧ (j' < j ∨ j' = j ∧ l' < l)) := fun z => a5 i' j' l' b1 b2 b3 z b4
    have h2 : ¬ (i < i' ∨ i = i' ∧ (j < j' ∨ j = j' ∧ l < l')) := fun z => b5 i j l a1 a2 a3 z a4
    have e1 : i = i' := by omega
    subst e1
    have e2 : j = j' := by omega
    subst e2
    have e3 : l = l' := by omega
    rw [e3]
/-! ### own tables: plain law -/
omit B in
theorem nd_inj {F : List (List Nat)} (nd : F.Nodup) {i j : Nat} (hi : i < F.length) (hj : j < F.length) (e : F.getD i [] = F.getD j []) : i = j := by
  rw [List.getD_eq_getElem?_getD, List.getD_eq_getElem?_getD, List.getElem?_eq_getElem hi, List.getElem?_eq_getElem hj] at e
  have e : F[i] = F[j] := e
  rw [List.nodup_iff_pairwise_ne, List.pairwise_iff_getElem] at nd
  rcases Nat.lt_trichotomy i j with c | c | c
  · exact absurd e (nd i j hi hj c)
  · exact c
  · exact absurd e.symm (nd j i hj hi c)
structure OwnG (S : Nat) (F tb : List (List Nat)) : Prop where
  nd : F.Nodup
  dt : ∀ d ∈ F, Dt S d
  first : F.getD 0 [] = List.range S
  own : OwnT F tb
  len : tb.length = F.length
  row : ∀ i, i < F.length → (tb.getD i []).length = F.length ∧ Bel (tb.getD i []) F.length
omit B in
theorem OwnG.at_dt {S : Nat} {F tb : List (List Nat)} (o : OwnG S F tb) {i : Nat} (hi : i < F.length) : Dt S (F.getD i []) := by
  rw [List.getD_eq_getElem?_getD, List.getElem?_eq_getElem hi]
  exact o.dt _ (List.getElem_mem hi)
omit B in
theorem OwnG.lt {S : Nat} {F tb : List (List Nat)} (o : OwnG S F tb) {i j : Nat} (hi : i < F.length) (hj : j < F.length) : (tb.getD i []).getD j 0 < F.length := (o.row i hi).2 _ (getD_mem (by rw [(o.row i hi).1]; exact hj))
omit B in
theorem OwnG.row0 {S : Nat} {F tb : List (List Nat)} (o : OwnG S F tb) (h : 0 < F.length) : tb.getD 0 [] = List.range F.length := by
  refine List.ext_getElem? fun j => ?_
  by_cases c : j < F.length
  · have c2 : j < (tb.getD 0 []).length := by rw [(o.row 0 h).1]; exact c
    rw [getD_at c2, List.getElem?_range c]
    congr 1
    refine nd_inj o.nd (o.lt h c) c ?_
    rw [o.own 0 j h c, o.first]
    exact one_thn (o.at_dt c)
  · rw [List.getElem?_eq_none (by rw [(o.row 0 h).1]; omega), List.getElem?_eq_none (by rw [List.length_range]; omega)]
omit B in
theorem OwnG.col0 {S : Nat} {F tb : List (List Nat)} (o : OwnG S F tb) (h : 0 < F.length) {i : Nat} (hi : i < F.length) : (tb.getD i []).getD 0 0 = i := by
  refine nd_inj o.nd (o.lt hi h) hi ?_
  rw [o.own i 0 hi h, o.first]
  exact thn_one (o.at_dt hi)
omit B in
theorem OwnG.held {S : Nat} {F tb : List (List Nat)} (o : OwnG S F tb) : Fd F tb F.length none := fun i j hi hj => by
  unfold Bd
  rw [o.own i j hi hj]
  exact fun z => z rfl
omit B in
theorem OwnG.unbroken {S : Nat} {F tb : List (List Nat)} (o : OwnG S F tb) : Fg tb F.length none := fun i j l hi hj hl => by
  have h1 := o.lt hi hj
  have h2 := o.lt hj hl
  unfold Bg
  refine fun z => z (nd_inj o.nd (o.lt h1 hl) (o.lt hi h2) ?_)
  rw [o.own _ l h1 hl, o.own i j hi hj, o.own i _ hi h2, o.own j l hj hl]
  exact thn_assoc (o.at_dt hi) (o.at_dt hj)
omit B in
theorem OwnG.same {S : Nat} {F tb tb' : List (List Nat)} (o : OwnG S F tb) (o' : OwnG S F tb') : tb = tb' := by
  refine List.ext_getElem? fun i => ?_
  by_cases c : i < F.length
  · have e : ∀ {t : List (List Nat)}, t.length = F.length → t[i]? = some (t.getD i []) := fun h => by rw [List.getD_eq_getElem?_getD, List.getElem?_eq_getElem (by omega)] <;> rfl
    rw [e o.len, e o'.len]
    congr 1
    refine List.ext_getElem? fun j => ?_
    by_cases c2 : j < F.length
    · rw [getD_at (by rw [(o.row i c).1]; exact c2), getD_at (by rw [(o'.row i c).1]; exact c2)]
      congr 1
      refine nd_inj o.nd (o.lt c c2) (o'.lt c c2) ?_
      rw [o.own i j c c2, o'.own i j c c2]
    · rw [List.getElem?_eq_none (by rw [(o.row i c).1]; omega), List.getElem?_eq_none (by rw [(o'.row i c).1]; omega)]
  · rw [List.getElem?_eq_none (by rw [o.len]; omega), List.getElem?_eq_none (by rw [o'.len]; omega)]
omit B in
theorem own_of {S n : Nat} {M : List (List Nat)} {H : Hp} {A U : Addr} {ls ts : List (Addr × List Nat)} (hM : ∀ m ∈ M, Dt S m) (f : FaAt S M H A ls n) (g : GridAt H U ts ls.length ls.length) (tl : ts.length = ls.length) (o : OwnT (gr ls) (gr ts)) : OwnG S (gr ls) (gr ts) := by
  have gl : (gr ls).length = ls.length := by unfold gr; rw [List.length_map]
  have e5 : gr ls = kf (gp S M n) := f.eq
  refine ⟨f.fam.nd, fun d hd => (f.fam.rch d hd).dt hM, ?_, o, by unfold gr; rw [List.length_map, List.length_map, tl], fun i hi => ?_⟩
  · have p := gp_pre (S := S) (M := M) (n := 0) n
    have := pre_get p (i := 0) (x := (List.range S, [])) rfl
    rw [Nat.zero_add] at this
    rw [e5, List.getD_eq_getElem?_getD]
    unfold kf
    rw [List.getElem?_map, this] <;> rfl
  · obtain ⟨_, h2, h3⟩ := gr_row g (j := i) (by omega)
    rw [gl]
    exact ⟨h2, h3⟩
def gdT (rows : List (List Nat)) : PyData := .tuple (rows.map fun r => .tuple ((iN r).map PyData.int))
omit B in
theorem gdT_ly {rows : List (List Nat)} : Ly 2 (gdT rows) := .tup fun d hd => by
  obtain ⟨r, _, rfl⟩ := List.mem_map.mp hd
  exact .tupI
omit B in
theorem gdT_dp {K : PySem.W.Frag} {H : Hp} {T : Addr} {ls : List (Addr × List Nat)} (h : H T = some (.tup (ls.map fun x => V.ref x.1))) (r : RsAt H ls) : Dp K H (.ref T) (gdT (gr ls)) := by
  refine .tup (SqT.of h) (dpAll_of (by unfold gr; rw [List.length_map, List.length_map, List.length_map]) fun i x d hx hd => ?_)
  unfold gr at hd
  rw [List.getElem?_map] at hx hd
  rw [List.getElem?_map] at hd
  obtain ⟨y, hy, rfl⟩ := Option.map_eq_some_iff.mp hx
  rw [hy] at hd
  cases (Option.some.inj hd)
  exact tupI_dp (SqT.of (r y (List.mem_of_getElem? hy)))
/-- a family's words, told -/
structure WoAt (S : Nat) (M : List (List Nat)) (H : Hp) (T : Addr) (ws : List (Addr × List Nat)) (n : Nat) : Prop where
  top : H T = some (.tup (ws.map fun x => V.ref x.1))
  rs : RsAt H ws
  eq : ws.map (fun x => x.2) = (gp S M n).map fun x => x.2
  fin : Fin' S M n
omit B in
theorem WoAt.same {S : Nat} {M : List (List Nat)} {H H' : Hp} {T : Addr} {ws : List (Addr × List Nat)} {n : Nat} (a : WoAt S M H T ws n) (e : Same H H') : WoAt S M H' T ws n := ⟨e _ _ a.top, a.rs.same e, a.eq, a.fin⟩
omit B in
theorem WoAt.keep {S : Nat} {M : List (List Nat)} {H H' : Hp} {T : Addr} {ws : List (Addr × List Nat)} {n : Nat} (a : WoAt S M H T ws n) (e : ∀ t xs, H t = some (.tup xs) → H' t = some (.tup xs)) : WoAt S M H' T ws n := ⟨e _ _ a.top, fun x hx => e _ _ (a.rs x hx), a.eq, a.fin⟩
def spWords (K : PySem.W.Frag) : Sp := fun vs H Q _ => ∃ (T : Addr) (rs : List (Addr × List Nat)) (S : Nat), vs = [.ref T] ∧ GridAt H T rs S S ∧ 1 ≤ rs.length ∧ rs.length ≤ 4 ∧ 1 ≤ S ∧ S ≤ 5 ∧ Few S (gr rs) ∧
  ∀ U ws n H', Same H H' → WoAt S (gr rs) H' U ws n → Q (.ref U) H'
theorem k_words (D : Df K mg "words" s_words ["deeds"]) (D_want_makers : Dn P w K mg base 4 "want_makers" ["deeds"] (spWantMk K)) (D_grown : Dn P w K mg base 2 "grown" ["deeds"] (spGrown K)) : Dn P w K mg base 5 "words" ["deeds"] (spWords K) := by
  refine D.ok fun f fd F => okG0 F sc_words (fun vs H Q E h => ?_) (fun cdv A outer s H vs Q E hr h => ⟨_, (pss_cons (ps_expr (pe_cD D_want_makers (hr.less (by decide)) rfl (pa_cons (pv 0) pa_nil)))
    (pss_one (ps_ret (pe_callTy (call_tup_vals rfl) (by rfl) B.tuple_ (by decide +kernel) (pa_cons (kk (K := K) (F := fun K => tBM0 K "dict" _ _) (P := PE _ _) (pe_bm0 PySem.F.plainAttrs_dict PySem.F.slot_dict_values PySem.F.type_dict_values mt_valT (pe_cD D_grown (hr.less (by decide)) rfl (pa_cons (pv 0) pa_nil)))) pa_nil))))), ?_⟩)
  · obtain ⟨T, rs, S, rfl, _⟩ := h; rfl
  · obtain ⟨T, rs, S, rfl, g, r1, r4, s1, s5, few, q⟩ := h
    try walk_at "go"
    intro H1 S1
    have g1 := g.same S1
    try walk_at "go"
    intro D fs n H2 S2 hDn F2 eF fin f60
    have F2t := F2.top
    have tyD : tyV K "dict" (.ref D) H2 := .inr (.inr (.inl ⟨rfl, .inr ⟨_, F2t⟩⟩))
    try walk_at "go"
    intro p hp
    generalize eH3 : upd H2 p (valsO p D) = H3
    have SH3 := newS eH3 hp
    have oP : H3 p = some (valsO p D) := newO eH3
    have F3t := SH3 _ _ F2t
    try walk_at "go"
    intro U hU
    generalize eH4 : upd _ U _ = H4
    have SH4 := newS eH4 hU
    have oU := newO eH4
    have em : ((fq fs).map fun x => (kN x.1, V.ref x.2)).map (fun kv => kv.2) = (fs.map fun x => (x.2, x.1.2)).map fun x : Addr × List Nat => V.ref x.1 := by
      unfold fq
      rw [List.map_map, List.map_map, List.map_map] <;> rfl
    rw [em] at oU
    refine q U _ n H4 (S1.trans (S2.trans (SH3.trans SH4))) ⟨oU, fun x hx => ?_, ?_, fin⟩
    · obtain ⟨y, hy, rfl⟩ := List.mem_map.mp hx
      exact SH4 _ _ (SH3 _ _ (F2.wd y hy))
    · rw [← eF]
      unfold fpf
      rw [List.map_map, List.map_map] <;> rfl
/-! SPLIT -/
/-! ### numbers folded by an own table: plain law -/
def prd (F : List (List Nat)) (ns : List Nat) (f : Nat) : Nat → List Nat
  | 0 => F.getD 0 []
  | m + 1 => thn (prd F ns f m) (F.getD (ns.getD (f + m) 0) [])
omit B in
theorem prd_dt {S : Nat} {F tb : List (List Nat)} {ns : List Nat} (o : OwnG S F tb) (h0 : 0 < F.length) (hb : Bel ns F.length) (f : Nat) : ∀ m, f + m ≤ ns.length → Dt S (prd F ns f m)
  | 0, _ => o.at_dt h0
  | m + 1, h => thn_dt (prd_dt o h0 hb f m (by omega)) (o.at_dt (hb _ (getD_mem (by omega))))
omit B in
theorem prd_add {S : Nat} {F tb : List (List Nat)} {ns : List Nat} (o : OwnG S F tb) (h0 : 0 < F.length) (hb : Bel ns F.length) (f m : Nat) : ∀ k, f + m + k ≤ ns.length → thn (prd F ns f m) (prd F ns (f + m) k) = prd F ns f (m + k)
  | 0, h => by
    show thn (prd F ns f m) (F.getD 0 []) = prd F ns f m
    rw [o.first]
    exact thn_one (prd_dt o h0 hb f m (by omega))
  | k + 1, h => by
    show thn (prd F ns f m) (thn (prd F ns (f + m) k) _) = thn (prd F ns f (m + k)) (F.getD (ns.getD (f + (m + k)) 0) [])
    rw [← thn_assoc (prd_dt o h0 hb f m (by omega)) (prd_dt o h0 hb (f + m) k (by omega)), prd_add o h0 hb f m k (by omega), Nat.add_assoc]
omit B in
theorem fv_prd {S : Nat} {F tb : List (List Nat)} {ns : List Nat} (o : OwnG S F tb) (h0 : 0 < F.length) (hb : Bel ns F.length) : ∀ {t : Tr} {f : Nat}, IsRow t f → f + t.cnt ≤ ns.length → fv tb ns t < F.length ∧ F.getD (fv tb ns t) [] = prd F ns f t.cnt
  | .leaf n, f, h, h2 => by
    have e : n = f := h
    subst e
    have h3 : n < ns.length := h2
    have hk := hb _ (getD_mem h3)
    refine ⟨hk, ?_⟩
    show F.getD (ns.getD n 0) [] = thn (F.getD 0 []) (F.getD (ns.getD (n + 0) 0) [])
    rw [o.first, Nat.add_zero]
    exact (one_thn (o.at_dt hk)).symm
  | .node l r, f, h, h2 => by
    obtain ⟨h3, h4⟩ := h
    have h5 : f + (l.cnt + r.cnt) ≤ ns.length := h2
    obtain ⟨a1, a2⟩ := fv_prd o h0 hb h3 (by omega)
    obtain ⟨b1, b2⟩ := fv_prd o h0 hb h4 (by omega)
    refine ⟨o.lt a1 b1, ?_⟩
    show F.getD ((tb.getD (fv tb ns l) []).getD (fv tb ns r) 0) [] = prd F ns f (l.cnt + r.cnt)
    rw [o.own _ _ a1 b1, a2, b2]
    exact prd_add o h0 hb f l.cnt r.cnt (by omega)
omit B in
theorem sv_prd {S : Nat} {F tb : List (List Nat)} {ns : List Nat} (o : OwnG S F tb) (h0 : 0 < F.length) (hb : Bel ns F.length) : ∀ {t : Tr} {f s : Nat}, IsRow t f → f + t.cnt ≤ ns.length → s < S → sv F tb ns t s = (List.range t.cnt).map fun k => (prd F ns f k).getD s 0
  | .leaf n, f, s, h, h2, hs => by
    show [s] = [(F.getD 0 []).getD s 0]
    rw [o.first, List.getD_eq_getElem?_getD, List.getElem?_range hs] <;> rfl
  | .node l r, f, s, h, h2, hs => by
    obtain ⟨h3, h4⟩ := h
    have h5 : f + (l.cnt + r.cnt) ≤ ns.length := h2
    obtain ⟨a1, a2⟩ := fv_prd o h0 hb h3 (by omega)
    have dl := prd_dt o h0 hb f l.cnt (by omega)
    have hs2 : (prd F ns f l.cnt).getD s 0 < S := dl.2 _ (getD_mem (by rw [dl.1]; exact hs))
    show sv F tb ns l s ++ sv F tb ns r ((F.getD (fv tb ns l) []).getD s 0) = (List.range (l.cnt + r.cnt)).map _
    rw [a2, sv_prd o h0 hb h3 (by omega) hs, sv_prd o h0 hb h4 (by omega) hs2, List.range_add, List.map_append, List.map_map]
    congr 1
    refine List.map_congr_left fun k hk => ?_
    have hk := List.mem_range.mp hk
    show (prd F ns (f + l.cnt) k).getD ((prd F ns f l.cnt).getD s 0) 0 = (prd F ns f (l.cnt + k)).getD s 0
    rw [← prd_add o h0 hb f l.cnt k (by omega), getD_thn (by rw [dl.1]; exact hs)]
/-- a tree over so many -/
def TreeOf (H : Hp) (v : V) (m : Nat) : Prop := ∃ t, TrAt H v t ∧ IsRow t 0 ∧ t.cnt = m
omit B in
theorem TreeOf.same {H H' : Hp} {v : V} {m : Nat} (a : TreeOf H v m) (e : Same H H') : TreeOf H' v m := by
  obtain ⟨t, h1, h2⟩ := a
  exact ⟨t, h1.same e, h2⟩
/-! wants st16z0 -/
omit B in
theorem prd_bt {S : Nat} {W : List Dd} {ns : List Nat} (hW : ∀ d ∈ W, Kp S d) (first : (W.map (bt S)).getD 0 [] = List.range S) (hb : Bel ns W.length) : ∀ k, k ≤ ns.length → prd (W.map (bt S)) ns 0 k = bt S (behs (dsw W (ns.take k)))
  | 0, _ => by
    show (W.map (bt S)).getD 0 [] = bt S (behs (dsw W (ns.take 0)))
    rw [first, List.take_zero]
    exact bt_look.symm
  | k + 1, h => by
    have hk : ns[k]? = some (ns.getD k 0) := getD_at (by omega)
    have hl := hb _ (getD_mem (xs := ns) (j := k) (by omega))
    show thn (prd (W.map (bt S)) ns 0 k) ((W.map (bt S)).getD (ns.getD (0 + k) 0) []) = _
    rw [Nat.zero_add, prd_bt hW first hb k (by omega), map_bt_get hl, bt_beh (behs_kp (dsw_kp hW _)) (hW _ (getD_mem_look hl)), take_snoc hk, show dsw W (ns.take k ++ [ns.getD k 0]) = dsw W (ns.take k) ++ [W.getD (ns.getD k 0) look] by unfold dsw; rw [List.map_append] <;> rfl, behs_snoc]
omit B in
theorem ans_prd {S : Nat} {W : List Dd} {ns : List Nat} {st : Nat} (hW : ∀ d ∈ W, Kp S d) (first : (W.map (bt S)).getD 0 [] = List.range S) (hb : Bel ns W.length) (hst : st < S) : iN ((List.range ns.length).map fun k => (prd (W.map (bt S)) ns 0 k).getD st 0) = ans (st : Nat) (dsw W ns) := by
  rw [ans_get, dsw_len]
  unfold iN
  rw [List.map_map]
  refine List.map_congr_left fun k hk => ?_
  have hk := List.mem_range.mp hk
  show (((prd (W.map (bt S)) ns 0 k).getD st 0 : Nat) : Int) = _
  have kp := behs_kp (dsw_kp hW (ns.take k))
  obtain ⟨r, er, hr⟩ := kp.at_ hst
  have ok : Oks (dsw W (ns.take k)) := fun d hd => (dsw_kp hW _ d hd).ok
  rw [prd_bt hW first hb k (by omega), bt_get hst, dsw_take, ← behs_ap ok, er, Int.toNat_natCast]
def gdL (rows : List (List Nat)) : PyData := .list (rows.map fun r => .tuple ((iN r).map PyData.int))
omit B in
theorem gdL_ly {rows : List (List Nat)} : Ly 2 (gdL rows) := .lst fun d hd => by
  obtain ⟨r, _, rfl⟩ := List.mem_map.mp hd
  exact .tupI
omit B in
theorem gdL_dp {K : PySem.W.Frag} {H : Hp} {T : Addr} {ls : List (Addr × List Nat)} (h : H T = some (.lst (ls.map fun x => V.ref x.1))) (r : RsAt H ls) : Dp K H (.ref T) (gdL (gr ls)) := by
  refine .lst (SqL.of h) (dpAll_of (by unfold gr; rw [List.length_map, List.length_map, List.length_map]) fun i x d hx hd => ?_)
  unfold gr at hd
  rw [List.getElem?_map] at hx hd
  rw [List.getElem?_map] at hd
  obtain ⟨y, hy, rfl⟩ := Option.map_eq_some_iff.mp hx
  rw [hy] at hd
  cases (Option.some.inj hd)
  exact tupI_dp (SqT.of (r y (List.mem_of_getElem? hy)))
/-- deeds that lie at places -/
def QsAt (H : Hp) (qs : List (Addr × Dd)) : Prop := ∀ x ∈ qs, H x.1 = some (.tup x.2.vs)
omit B in
theorem QsAt.keep {H H' : Hp} {qs : List (Addr × Dd)} (a : QsAt H qs) (e : ∀ t xs, H t = some (.tup xs) → H' t = some (.tup xs)) : QsAt H' qs := fun x hx => e _ _ (a x hx)
omit B in
theorem QsAt.same {H H' : Hp} {qs : List (Addr × Dd)} (a : QsAt H qs) (e : Same H H') : QsAt H' qs := fun x hx => e _ _ (a x hx)
omit B in
theorem RsAt.keep {H H' : Hp} {ls : List (Addr × List Nat)} (a : RsAt H ls) (e : ∀ t xs, H t = some (.tup xs) → H' t = some (.tup xs)) : RsAt H' ls := fun x hx => e _ _ (a x hx)
omit B in
theorem tk_lst {H : Hp} {E : Addr} {ys zs : List V} (hE : H E = some (.lst ys)) : ∀ t xs, H t = some (.tup xs) → upd H E (.lst zs) t = some (.tup xs) := fun t xs z => by rw [upd_ne (ne_of z hE (by intro z; cases z))]; exact z
omit B in
theorem QsAt.snoc {H : Hp} {qs : List (Addr × Dd)} {a : Addr} {d : Dd} (h : QsAt H qs) (ha : H a = some (.tup d.vs)) : QsAt H (qs ++ [(a, d)]) := fun x hx => by
  rcases List.mem_append.mp hx with z | z
  · exact h x z
  · cases List.mem_singleton.mp z
    exact ha
omit B in
theorem RsAt.snoc {H : Hp} {ls : List (Addr × List Nat)} {a : Addr} {d : List Nat} (h : RsAt H ls) (ha : H a = some (.tup ((iN d).map V.int))) : RsAt H (ls ++ [(a, d)]) := fun x hx => by
  rcases List.mem_append.mp hx with z | z
  · exact h x z
  · cases List.mem_singleton.mp z
    exact ha
omit B in
theorem gr_snoc {ls : List (Addr × List Nat)} {a : Addr} {d : List Nat} : gr (ls ++ [(a, d)]) = gr ls ++ [d] := by unfold gr; rw [List.map_append] <;> rfl
omit B in
theorem dsOf_snoc {ls : List (Addr × Dd)} {a : Addr} {d : Dd} : dsOf (ls ++ [(a, d)]) = dsOf ls ++ [d] := by unfold dsOf; rw [List.map_append] <;> rfl
omit B in
theorem map_snoc {α β : Type} {f : α → β} {xs : List α} {x : α} : (xs ++ [x]).map f = xs.map f ++ [f x] := by rw [List.map_append] <;> rfl
omit B in
theorem take_map_snoc {α β : Type} {f : α → β} {xs : List α} {i : Nat} {x : α} (h : xs[i]? = some x) : (xs.take (i + 1)).map f = (xs.take i).map f ++ [f x] := by rw [take_snoc h, List.map_append] <;> rfl
def spClD : Sp := fun vs H Q _ => ∃ (p : Addr) (S : Nat), vs = [.ref p, .int S] ∧ PotAt H p ∧ 1 ≤ S ∧ S ≤ 5 ∧ ∀ a d H', But p H H' → PotAt H' p → H a = none → H' a = some (.tup d.vs) → Cl S d → Q (.ref a) H'
theorem k__law_drawn (D : Df K mg "_law_drawn" s__law_drawn ["_law_store_here", "_law_states"]) (D__law_draw : Dn P w K mg base 1 "_law_draw" ["_law_store_here", "_law_many"] spTake) : Dn P w K mg base 3 "_law_drawn" ["_law_store_here", "_law_states"] spClD := by
  refine D.ok fun f fd F => okG0 F sc__law_drawn (fun vs H Q E h => ?_) (fun cdv A outer s H vs Q E hr h => ⟨_, (pss_cons (ps_set (i := 2) sc__law_drawn.nd rfl (Or.inl rfl) (pe_cD D__law_draw (hr.less (by decide)) rfl (pa_cons (pv 0) (pa_cons pe_int pa_nil))))
    (pss_cons (ps_set (i := 3) sc__law_drawn.nd rfl (Or.inl rfl) (pe_op op_sub (pe_cD D__law_draw (hr.less (by decide)) rfl (pa_cons (pv 0) (pa_cons pe_int pa_nil))) pe_int))
    (pss_cons (ps_set (i := 4) sc__law_drawn.nd rfl (Or.inl rfl) (pe_cD D__law_draw (hr.less (by decide)) rfl (pa_cons (pv 0) (pa_cons (pv 1) pa_nil))))
    (pss_cons (ps_set (i := 5) sc__law_drawn.nd rfl (Or.inl rfl) (pe_op op_add (pv 4) (pe_cD D__law_draw (hr.less (by decide)) rfl (pa_cons (pv 0) (pa_cons (pe_op op_sub (pv 1) (pv 4)) pa_nil)))))
    (pss_cons (ps_if (PW.pt (pw_or (pt_cmpR op_eq (pv 2) pe_int (nomark _)) (pw_or1 (PW.pt (pw_and (pt_cmpR op_eq (pv 4) (pv 5) (nomark _)) (pw_and1 (pt_cmpR op_eq (pv 2) pe_int (nomark _))))))))
      (pss_one (ps_ret (pe_tup (pa_cons pe_int (pa_cons (pv 4) (pa_cons (pv 4) pa_nil))))))
      pss_nil)
    (pss_cons (ps_if (pt_cmpR op_eq (pv 2) pe_int (nomark _))
      (pss_one (ps_ret (pe_tup (pa_cons (pv 3) (pa_cons (pv 4) (pa_cons (pv 5) pa_nil))))))
      pss_nil)
    (pss_cons (ps_if (pt_cmpR op_eq (pv 1) pe_int (nomark _))
      (pss_one (ps_ret (pe_tup (pa_cons pe_int (pa_cons pe_int (pa_cons pe_int pa_nil))))))
      pss_nil)
    (pss_one (ps_ret (pe_tup (pa_cons (pv 3) (pa_cons pe_int (pa_cons (pe_op op_sub (pv 1) pe_int) pa_nil))))))))))))), ?_⟩)
  · obtain ⟨p, S, rfl, _⟩ := h; rfl
  · obtain ⟨p, S, rfl, hp, s1, s5, q⟩ := h
    try walk_at "go"
    intro c H1 c4 b1 p1
    try walk_at "go"
    intro n H2 n11 b2 p2
    try walk_at "go"
    intro l H3 lS b3 p3
    try walk_at "go"
    intro m H4 mS b4 p4
    have b14 : But p H H4 := b1.trans (b2.trans (b3.trans b4))
    obtain ⟨h', eh⟩ : ∃ h' : Nat, (l : Int) + (m : Int) = (h' : Int) ∧ l ≤ h' ∧ h' < S := ⟨l + m, by omega, by omega, by omega⟩
    obtain ⟨eh, lh, hS'⟩ := eh
    have e13 : (fun i j : Int => V.int (i + j)) (l : Int) (m : Int) = V.int (h' : Int) := congrArg V.int eh
    try walk_at "go"
    rw [e13]
    have fin : ∀ (x y z : Int) (H5 : Hp) (a : Addr), H4 a = none → upd H4 a (.tup [.int x, .int y, .int z]) = H5 → Cl S ⟨x, some y, some z⟩ → Q (.ref a) H5 := fun x y z H5 a ha e5 hc => by
      have S5 := newS e5 ha
      have npa : a ≠ p := pot_ne p4 ha
      exact q a ⟨x, some y, some z⟩ H5 (b14.trans (same_but S5)) (p4.same S5) (But.free b14 npa ha) (newO e5) hc
    have cset : Cl S ⟨0, some (l : Int), some (l : Int)⟩ := ⟨5, l, l, by omega, Nat.le_refl _, by omega, rfl, rfl, .inl rfl, fun x y e1 e2 => by cases e1; cases e2; exact .inr ⟨rfl, rfl⟩⟩
    refine ite2 (fun c3 => ?_) (fun c3 => ?_)
    · refine ifT rfl ?_
      try walk_at "go"
      intro a ha
      exact fin 0 l l _ a ha rfl cset
    have czero : S = 1 → Cl S ⟨0, some 0, some 0⟩ := fun z => ⟨5, 0, 0, by omega, Nat.le_refl _, by omega, rfl, rfl, .inl rfl, fun x y e1 e2 => by cases e1; cases e2; exact .inr ⟨rfl, rfl⟩⟩
    have cfull : S ≠ 1 → Cl S ⟨(n : Int) - 5, some 0, some ((S : Int) - 1)⟩ := fun z => ⟨n, 0, S - 1, by omega, by omega, by omega, rfl, by show some ((S : Int) - 1) = some ((S - 1 : Nat) : Int); congr 1; omega, .inl rfl, fun x y e1 e2 => by cases e1; cases e2; exact .inl (by omega)⟩
    have cmid : l ≠ h' → Cl S ⟨(n : Int) - 5, some (l : Int), some (h' : Int)⟩ := fun z => ⟨n, l, h', by omega, lh, hS', rfl, rfl, .inl rfl, fun x y e1 e2 => by cases e1; cases e2; exact .inl (by omega)⟩
    try walk_at "go"
    refine ite2 (fun cl => ?_) (fun cl => ?_)
    · try walk_at "go"
      refine ite2 (fun c2 => ?_) (fun c2 => ?_)
      · try walk_at "go"
        intro a ha
        exact fin 0 l l _ a ha rfl cset
      try walk_at "go"
      refine ite2 (fun c5 => absurd c5 c2) (fun _ => ?_)
      try walk_at "go"
      refine ite2 (fun e1 => ?_) (fun e1 => ?_)
      · have z : S = 1 := by have := V.int.inj (of_decide_eq_true e1); omega
        try walk_at "go"
        intro a ha
        exact fin 0 0 0 _ a ha rfl (czero z)
      have z : S ≠ 1 := fun z => e1 (by subst z; rfl)
      try walk_at "go"
      intro a ha
      exact fin _ 0 _ _ a ha rfl (cfull z)
    refine ifF rfl ?_
    try walk_at "go"
    refine ite2 (fun c2 => ?_) (fun c2 => ?_)
    · have z : l ≠ h' := fun z => cl (by subst z; exact decide_eq_true rfl)
      try walk_at "go"
      intro a ha
      exact fin _ _ _ _ a ha rfl (cmid z)
    try walk_at "go"
    refine ite2 (fun e1 => ?_) (fun e1 => ?_)
    · have z : S = 1 := by have := V.int.inj (of_decide_eq_true e1); omega
      try walk_at "go"
      intro a ha
      exact fin 0 0 0 _ a ha rfl (czero z)
    have z : S ≠ 1 := fun z => e1 (by subst z; rfl)
    try walk_at "go"
    intro a ha
    exact fin _ 0 _ _ a ha rfl (cfull z)
omit B in
theorem ta_arg {K : PySem.W.Frag} {H : Hp} {a : Addr} {d : Dd} (h : TupAt K H a d.vs) (ok : d.Ok) : DeedArg K H a d := ⟨h.ty, h.sq, ok⟩
def spByT (K : PySem.W.Frag) : Sp := fun vs H Q _ => ∃ (a : Addr) (d : Dd) (S : Nat), vs = [.ref a, .int S] ∧ TupAt K H a d.vs ∧ Kp S d ∧ S ≤ 5 ∧ ∀ T H', Same H H' → H T = none → H' T = some (.tup ((iN (bt S d)).map V.int)) → Q (.ref T) H'
theorem k__law_by_table (D : Df K mg "_law_by_table" s__law_by_table ["_law_deed", "_law_states"]) (D_done : Dn P w K mg base 5 "done" ["deed", "value"] (spDone K)) : Dn P w K mg base 7 "_law_by_table" ["_law_deed", "_law_states"] (spByT K) := by
  refine D.ok fun f fd F => okG0 F sc__law_by_table (fun vs H Q E h => ?_) (fun cdv A outer s H vs Q E hr h => ⟨_, (pss_one (ps_ret (pe_callTy (tupOfK (K := K)) (by rfl) B.tuple_ (by decide +kernel) (pa_cons (pe_lc (own := [("_law_state", 2)]) (g := gName 2) (tt := tYes) rfl sc__law_by_table.nd (pi_range1 (by rfl) B.range_ (pa_cons (pv 1) pa_nil)) (blkOk_by (own := [("_law_state", 2)]) (N := ["_law_deed", "_law_states", "_law_state"]) (sc := defScope s__law_by_table) (by decide +kernel)) (fun _ _ _ _ _ => (pg_name (i := 2) sc__law_by_table.nd rfl (Or.inl rfl))) (fun _ _ _ _ _ => pts_nil) (fun _ _ _ _ _ => (pe_cD D_done (hr.less (by decide)) rfl (pa_cons (pv 0) (pa_cons (pv 2) pa_nil))))) pa_nil)))), ?_⟩)
  · obtain ⟨a, d, S, rfl, _⟩ := h; rfl
  · obtain ⟨a, d, S, rfl, ha, kd, s5, q⟩ := h
    have eS : ((S : Nat) : Int).toNat = S := by omega
    try walk_at "go"
    intro D hD
    rw [eS]
    refine lc_range (lo := 0) (n := S) (fun i H' => Kept (Same H H' ∧ H' D = some (.lst ((iN ((bt S d).take i)).map V.int)))) ⟨same_new hD _, upd_same⟩ ?_ ?_
    · rintro i H2 hi ⟨S2, hD2⟩
      have da : DeedArg K H2 a d := ta_arg (ha.same S2) kd.ok
      have ul : ((iN ((bt S d).take i)).map V.int).length ≤ 16 := by rw [iN_len, List.length_take]; omega
      obtain ⟨r, er, hr⟩ := kd.at_ hi
      try walk_at "go"
      rw [Int.zero_add, er]
      refine ⟨⟨but_same hD S2 But.upd, ?_⟩⟩
      have hb : (bt S d)[i]? = some r := by
        have h1 := bt_get (d := d) hi
        rw [er, Int.toNat_natCast] at h1
        rw [getD_at (by rw [bt_len]; exact hi), h1]
      rw [upd_same, iN_snoc, take_snoc hb]
    · rintro H2 ⟨S2, hD2⟩
      try walk_at "go"
      intro T hT
      generalize eH3 : upd _ T _ = H3
      have SH3 := newS eH3 hT
      have oT := newO eH3
      refine q T H3 (S2.trans SH3) (none_back S2 hT) ?_
      rw [oT, List.take_of_length_le (by rw [bt_len]; exact Nat.le_refl _)]
def spMadeF (K : PySem.W.Frag) : Sp := fun vs H Q _ => ∃ (L W : Addr) (ps : List (Addr × Dd)) (w : List Nat), vs = [.ref L, .ref W] ∧ H L = some (.lst (ps.map fun x => V.ref x.1)) ∧ (∀ x ∈ ps, Da H x.1 x.2) ∧ H W = some (.tup ((iN w).map V.int)) ∧ Bel w ps.length ∧ w.length ≤ 40 ∧
  ∀ a H', Same H H' → H' a = some (.tup (behs (dsw (dsOf ps) w)).vs) → Q (.ref a) H'
theorem k__law_made (D : Df K mg "_law_made" s__law_made ["_law_deeds", "_law_word"]) (D_folded : Dn P w K mg base 45 "folded" ["deeds", "tree"] (spFold K)) (D_chained : Dn P w K mg base 5 "chained" ["many"] spChained) : Dn P w K mg base 46 "_law_made" ["_law_deeds", "_law_word"] (spMadeF K) := by
  refine D.ok fun f fd F => okG0 F sc__law_made (fun vs H Q E h => ?_) (fun cdv A outer s H vs Q E hr h => ⟨_, (pss_cons (ps_if (pt_cmpR (kk (K := K) (F := rEqD) (P := OpR _ _) (op_eqD hr.units)) (pv 1) (pe_tup pa_nil) (nomark _))
      (pss_one (ps_ret (pe_tup (pa_cons pe_int (pa_cons pe_non (pa_cons pe_non pa_nil))))))
      pss_nil)
    (pss_one (ps_ret (pe_cD D_folded (hr.less (by decide)) rfl (pa_cons (pe_callTy (tupOfK (K := K)) (by rfl) B.tuple_ (by decide +kernel) (pa_cons (pe_lc (own := [("_law_number", 2)]) (g := gName 2) (tt := tYes) rfl sc__law_made.nd (kk (K := K) (F := fun K => iTup K _) (P := PI _ _ _) (pi_tup (pv 1))) (blkOk_by (own := [("_law_number", 2)]) (N := ["_law_deeds", "_law_word", "_law_number"]) (sc := defScope s__law_made) (by decide +kernel)) (fun _ _ _ _ _ => (pg_name (i := 2) sc__law_made.nd rfl (Or.inl rfl))) (fun _ _ _ _ _ => pts_nil) (fun _ _ _ _ _ => (pe_ix (kk (K := K) (F := rIxL) (P := IxR _) ix_list) (pv 0) (pv 2) (fun _ _ => rfl)))) pa_nil)) (pa_cons (pe_cD D_chained (hr.less (by decide)) rfl (pa_cons (pe_callB (lenK (K := K)) (by rfl) B.len_ (by decide +kernel) (pa_cons (pv 1) pa_nil)) pa_nil)) pa_nil)))))), ?_⟩)
  · obtain ⟨L, W, ps, w, rfl, _⟩ := h; rfl
  · obtain ⟨L, W, ps, w, rfl, hL, hps, hW, hw, w40, q⟩ := h
    try walk_at "go"
    intro Z hZ
    generalize eH1 : upd _ Z _ = H1
    have SH1 := newS eH1 hZ
    have oZ := newO eH1
    have d1 : Dp K H1 (.ref W) (.tuple ((iN w).map PyData.int)) := tupI_dp (SqT.of (SH1 _ _ hW))
    have d2 : Dp K H1 (.ref Z) (.tuple (([] : List Int).map PyData.int)) := tupI_dp (SqT.of oZ)
    have s1' : SeqAt.shaped (.tuple ((iN w).map PyData.int)) = true := tupI_sh _
    have s2' : SeqAt.shaped (.tuple (([] : List Int).map PyData.int)) = true := tupI_sh _
    try walk_at "go"
    by_cases hw0 : w = []
    · subst hw0
      refine ifT rfl ?_
      try walk_at "go"
      intro a ha
      generalize eH2 : upd _ a _ = H2
      have SH2 := newS eH2 ha
      have oa := newO eH2
      exact q a H2 (SH1.trans SH2) oa
    refine ifF (by cases w with | nil => exact absurd rfl hw0 | cons x y => rfl) ?_
    have hL1 := SH1 _ _ hL
    have hW1 := SH1 _ _ hW
    try walk_at "go"
    intro E hE
    refine lc_tup (K := K) (a := W) (xs := (iN w).map V.int) (fun j H' => Kept (∃ rs7 : List (Addr × Dd), Same H1 H' ∧ H' E = some (.lst (rs7.map fun x => V.ref x.1)) ∧ rs7.length = j ∧ (∀ x ∈ rs7, x ∈ ps) ∧ dsOf rs7 = dsw (dsOf ps) (w.take j))) ⟨[], same_new hE _, upd_same, rfl, fun x hx => absurd hx List.not_mem_nil, rfl⟩ (fun i H' _ h => by obtain ⟨_, S, _⟩ := h.ex; exact SqT.of (S _ _ hW1)) ?_ ?_
    · rintro j v H20 hv ⟨rs7, S20, hE20, hrl, hrq, hrd⟩
      obtain ⟨k, rfl, hk⟩ := iN_mem hv
      have kl : k < ps.length := hw _ (List.mem_of_getElem? hk)
      have hj : j < w.length := (List.getElem?_eq_some_iff.mp hk).1
      have hL20 := S20 _ _ hL1
      have ak : atI (ps.map fun x => V.ref x.1) (k : Int) = some (.ref ps[k].1) := atI_nat (by rw [List.getElem?_map, List.getElem?_eq_getElem kl] <;> rfl)
      have ul : (rs7.map fun x => V.ref x.1).length ≤ 60 := by rw [List.length_map]; omega
      try walk_at "go"
      refine ⟨⟨rs7 ++ [(ps[k].1, ps[k].2)], but_same hE S20 But.upd, by rw [upd_same, map_snoc], by rw [List.length_append, hrl] <;> rfl, fun x hx => ?_, ?_⟩⟩
      · rcases List.mem_append.mp hx with z | z
        · exact hrq x z
        · rw [List.mem_singleton.mp z]
          exact List.getElem_mem kl
      · rw [dsOf_snoc, hrd, take_snoc hk, show dsw (dsOf ps) (w.take j ++ [k]) = dsw (dsOf ps) (w.take j) ++ [(dsOf ps).getD k look] by unfold dsw; rw [List.map_append] <;> rfl]
        congr 2
        unfold dsOf
        rw [List.getD_eq_getElem?_getD, List.getElem?_map, List.getElem?_eq_getElem kl] <;> rfl
    rintro H20 ⟨rs7, S20, hE20, hrl, hrq, hrd⟩
    rw [iN_len, List.take_length] at hrd
    rw [iN_len] at hrl
    have w0 : 0 < w.length := by cases w with | nil => exact absurd rfl hw0 | cons x y => exact Nat.succ_pos _
    try walk_at "go"
    intro DT hDT
    generalize eH21 : upd _ DT _ = H21
    have SH21 := newS eH21 hDT
    have oDT := newO eH21
    have S21 := SH1.trans (S20.trans SH21)
    have dsA : DsAt H21 DT rs7 := ⟨oDT, by omega, by omega, fun x hx => (hps x (hrq x hx)).same S21⟩
    have lw : ((iN w).map V.int).length = w.length := iN_len
    have hW21 := S21 _ _ hW
    try walk_at "go"
    intro v H22 S22 tr
    rw [lw] at tr
    have dsA2 := dsA.same S22
    have row := ch_row (w.length - 1)
    have cnt : (ch (w.length - 1)).cnt = rs7.length := by rw [(ch_is (w.length - 1)).1]; omega
    try walk_at "go"
    intro a H23 S23 ha
    rw [hrd] at ha
    exact q a H23 (S21.trans (S22.trans S23)) ha
omit B in
theorem at_neg {xs : List V} {i : Nat} {v : V} (h : xs.length = i + 1) (e : xs[i]? = some v) : atI xs (-1) = some v := by
  unfold atI ixN
  have h1 : ¬ (0 : Int) ≤ -1 := by decide
  have h2 : -(xs.length : Int) ≤ -1 := by omega
  simp only [h1, if_false, h2, if_true]
  show xs[((xs.length : Int) + -1).toNat]? = _
  rw [show ((xs.length : Int) + -1).toNat = i by omega, e]
def spPower (K : PySem.W.Frag) : Sp := fun vs H Q _ => ∃ (T : Addr) (m : List Nat) (S n : Nat), vs = [.ref T, .int n] ∧ H T = some (.tup ((iN m).map V.int)) ∧ Dt S m ∧ 1 ≤ S ∧ S ≤ 5 ∧ ∀ U H', Same H H' → H' U = some (.tup ((iN (tpw S m n)).map V.int)) → Q (.ref U) H'
theorem k__law_power (D : Df K mg "_law_power" s__law_power ["_law_maker", "_law_many"]) : Dn P w K mg base 2 "_law_power" ["_law_maker", "_law_many"] (spPower K) := by
  refine D.ok fun f fd F => okG0 F sc__law_power (fun vs H Q E h => ?_) (fun cdv A outer s H vs Q E hr h => ⟨_, (pss_cons (ps_set (i := 2) sc__law_power.nd rfl (Or.inr rfl) (pe_lst (pa_cons (pe_tupRg rfl (by rfl) B.tuple_ (prg_1 rfl B.range_ (pe_callB (lenK (K := K)) (by rfl) B.len_ (by decide +kernel) (pa_cons (pv 0) pa_nil)))) pa_nil)))
    (pss_cons (ps_for PassesOwn.never rfl (pi_range1 (by rfl) B.range_ (pa_cons pe_int pa_nil)) (pg_name (i := 3) sc__law_power.nd rfl (Or.inl rfl))
      (pss_one (ps_expr (kk (K := K) (F := fun K => tBM K "list" _ _ _) (P := PE _ _) (pe_bm PySem.F.plainAttrs_list PySem.F.slot_list_append PySem.F.type_list_append mt_append (pv 2) (pa_cons (pe_callTy (tupOfK (K := K)) (by rfl) B.tuple_ (by decide +kernel) (pa_cons (pe_lc (own := [("_law_state", 5)]) (g := gName 5) (tt := tYes) rfl sc__law_power.nd (kk (K := K) (F := fun K => iTup K _) (P := PI _ _ _) (pi_tup (pe_ix (kk (K := K) (F := rIxL) (P := IxR _) ix_list) (pv 2) (pe_un un_neg pe_int) (fun _ _ => rfl)))) (blkOk_by (own := [("_law_state", 5)]) (N := ["_law_maker", "_law_many", "_law_rows", "_law_k", "_law_ahead", "_law_state"]) (sc := defScope s__law_power) (by decide +kernel)) (fun _ _ _ _ _ => (pg_name (i := 5) sc__law_power.nd rfl (Or.inl rfl))) (fun _ _ _ _ _ => pts_nil) (fun _ _ _ _ _ => (pe_ix (kk (K := K) (F := rIxT) (P := IxR _) ix_tup) (pv 0) (pv 5) (fun _ _ => rfl)))) pa_nil)) pa_nil))))))
    (pss_cons (ps_if (pt_cmpR op_lt (pv 1) pe_int (nomark _))
      (pss_one (ps_ret (pe_ix (kk (K := K) (F := rIxL) (P := IxR _) ix_list) (pv 2) (pv 1) (fun _ _ => rfl))))
      pss_nil)
    (pss_cons (ps_set (i := 4) sc__law_power.nd rfl (Or.inl rfl) (pe_ix (kk (K := K) (F := rIxL) (P := IxR _) ix_list) (pe_lc (own := [("_law_k", 3)]) (g := gName 3) rfl sc__law_power.nd (pi_range1 (by rfl) B.range_ (pa_cons pe_int pa_nil)) (blkOk_by (own := [("_law_k", 3)]) (N := ["_law_maker", "_law_many", "_law_rows", "_law_k", "_law_ahead", "_law_state"]) (sc := defScope s__law_power) (by decide +kernel)) (fun _ _ _ _ _ => (pg_name (i := 3) sc__law_power.nd rfl (Or.inl rfl))) (fun _ _ _ _ _ => (pts_one (pt_cmpR (kk (K := K) (F := rEqD) (P := OpR _ _) (op_eqD hr.units)) (pe_ix (kk (K := K) (F := rIxL) (P := IxR _) ix_list) (pv 2) (pv 3) (fun _ _ => rfl)) (pe_ix (kk (K := K) (F := rIxL) (P := IxR _) ix_list) (pv 2) pe_int (fun _ _ => rfl)) (nomark _)))) (fun _ _ _ _ _ => (pv 3))) (pe_un un_neg pe_int) (fun _ _ => rfl)))
    (pss_one (ps_ret (pe_ix (kk (K := K) (F := rIxL) (P := IxR _) ix_list) (pv 2) (pe_op op_add (pv 4) (pe_op op_mod (pe_op op_sub (pv 1) pe_int) (pe_op op_sub pe_int (pv 4)))) (fun _ _ => rfl)))))))), ?_⟩)
  · obtain ⟨T, m, S, n, rfl, _⟩ := h; rfl
  · obtain ⟨T, m, S, n, rfl, hT, hd, s1, s5, q⟩ := h
    have lm : ((iN m).map V.int).length = S := by rw [iN_len, hd.1]
    try walk_at "go"
    intro U0 hU0
    generalize eH1 : upd _ U0 _ = H1
    have SH1 := newS eH1 hU0
    have oU0 := newO eH1
    rw [lm, rg_iN] at oU0
    try walk_at "go"
    intro L hL
    generalize eH2 : upd _ L _ = H2
    have SH2 := newS eH2 hL
    have oL := newO eH2
    have hLn : H L = none := none_back SH1 hL
    have hT2 := SH2 _ _ (SH1 _ _ hT)
    try walk_at "go"
    refine for_range (lo := 0) (n := 12) (fun i σ H' => Kept (∃ (us : List (Addr × List Nat)) (w3 w4 w5 : Option V), σ = [some (.ref T), some (.int (n : Nat)), some (.ref L), w3, w4, w5] ∧ Same H H' ∧ H' L = some (.lst (us.map fun x => V.ref x.1)) ∧ us.length = i + 1 ∧ RsAt H' us ∧ gr us = (List.range (i + 1)).map (tpw S m))) ⟨[(U0, List.range S)], _, _, _, rfl, SH1.trans SH2, oL, rfl, fun x hx => by cases List.mem_singleton.mp hx; exact SH2 _ _ oU0, rfl⟩ ?_ ?_
    · rintro i σ H3 hi ⟨us, w3, w4, w5, rfl, S3, hL3, hul, hr3, hg3⟩
      have il : i < us.length := by omega
      have al := at_neg (xs := us.map fun x => V.ref x.1) (i := i) (by rw [List.length_map, hul]) (by rw [List.getElem?_map, List.getElem?_eq_getElem il] <;> rfl)
      have e2 : us[i].2 = tpw S m i := by
        have h1 : (gr us)[i]? = some us[i].2 := by unfold gr; rw [List.getElem?_map, List.getElem?_eq_getElem il] <;> rfl
        rw [hg3, List.getElem?_map, List.getElem?_range (by omega)] at h1
        exact (Option.some.inj h1).symm
      have hu : H3 us[i].1 = some (.tup ((iN (tpw S m i)).map V.int)) := by rw [← e2]; exact hr3 _ (List.getElem_mem il)
      have hT3 := S3 _ _ hT
      have dti := tpw_dt hd i
      try walk_at "go"
      intro E hE
      refine lc_tup (K := K) (a := us[i].1) (xs := (iN (tpw S m i)).map V.int) (fun j H' => Kept (Same H3 H' ∧ H' E = some (.lst ((iN ((thn (tpw S m i) m).take j)).map V.int)))) ⟨same_new hE _, upd_same⟩ (fun j H' _ h => SqT.of (h.ex.1 _ _ hu)) ?_ ?_
      · rintro j v H4 hv ⟨S4, hE4⟩
        obtain ⟨s, rfl, hs⟩ := iN_mem hv
        have hs2 : s < S := dti.2 _ (List.mem_of_getElem? hs)
        have hT4 := S4 _ _ hT3
        have as := iN_atI (xs := m) (j := s) (by rw [hd.1]; exact hs2)
        have ul : ((iN ((thn (tpw S m i) m).take j)).map V.int).length ≤ 60 := by
          rw [iN_len, List.length_take, (thn_dt dti hd).1]
          omega
        have hj : (thn (tpw S m i) m)[j]? = some (m.getD s 0) := by unfold thn; rw [List.getElem?_map, hs] <;> rfl
        try walk_at "go"
        exact ⟨⟨but_same hE S4 But.upd, by rw [upd_same, iN_snoc, take_snoc hj]⟩⟩
      rintro H4 ⟨S4, hE4⟩
      rw [iN_len, dti.1, List.take_of_length_le (by rw [(thn_dt dti hd).1]; exact Nat.le_refl _)] at hE4
      try walk_at "go"
      intro U hU
      generalize eH5 : upd _ U _ = H5
      have SH5 := newS eH5 hU
      have oU := newO eH5
      have hL5 := SH5 _ _ (S4 _ _ hL3)
      have ul : (us.map fun x => V.ref x.1).length ≤ 60 := by rw [List.length_map]; omega
      try walk_at "go"
      refine ⟨⟨us ++ [(U, tpw S m (i + 1))], _, _, _, rfl, ?_, by rw [upd_same, map_snoc], by rw [List.length_append, hul] <;> rfl, ((hr3.same (S4.trans SH5)).snoc oU).keep (tk_lst hL5), by rw [gr_snoc, hg3, List.range_succ (n := i + 1), map_snoc]⟩⟩
      exact but_same hLn (S3.trans (S4.trans SH5)) But.upd
    · rintro σ H3 ⟨us, w3, w4, w5, rfl, S3, hL3, hul, hr3, hg3⟩
      have ul2 : us.length = 13 := hul
      have at_ : ∀ k, k < 13 → ∃ x : Addr × List Nat, us[k]? = some x ∧ (us.map fun x => V.ref x.1)[k]? = some (.ref x.1) ∧ H3 x.1 = some (.tup ((iN (tpw S m k)).map V.int)) := fun k hk => by
        have kl : k < us.length := by omega
        refine ⟨us[k], List.getElem?_eq_getElem kl, by rw [List.getElem?_map, List.getElem?_eq_getElem kl] <;> rfl, ?_⟩
        have h1 : (gr us)[k]? = some us[k].2 := by unfold gr; rw [List.getElem?_map, List.getElem?_eq_getElem kl] <;> rfl
        rw [hg3, List.getElem?_map, List.getElem?_range (by omega)] at h1
        have e2 : us[k].2 = tpw S m k := (Option.some.inj h1).symm
        rw [← e2]
        exact hr3 _ (List.getElem_mem kl)
      try walk_at "go"
      refine ite2 (fun c => ?_) (fun c => ?_)
      · have c' : n < 12 := by have := of_decide_eq_true c; omega
        obtain ⟨x, h1, h2, h3⟩ := at_ n (by omega)
        have an := atI_nat h2
        try walk_at "go"
        exact q _ H3 S3 h3
      have c' : 12 ≤ n := by
        rcases Nat.lt_or_ge n 12 with z | z
        · exact absurd (decide_eq_true (by omega : (n : Int) < 12)) c
        · exact z
      obtain ⟨y, y1, y2, y3⟩ := at_ 12 (by omega)
      have a12 : atI (us.map fun x => V.ref x.1) 12 = some (.ref y.1) := atI_nat (j := 12) y2
      try walk_at "go"
      intro E hE
      refine lc_range (lo := 0) (n := 12) (fun j H' => Kept (Same H3 H' ∧ H' E = some (.lst ((iN ((List.range j).filter fun k => decide (tpw S m k = tpw S m 12))).map V.int)))) ⟨same_new hE _, upd_same⟩ ?_ ?_
      · rintro j H4 hj ⟨S4, hE4⟩
        obtain ⟨x, h1, h2, h3⟩ := at_ j (by omega)
        have aj := atI_nat h2
        have hL4 := S4 _ _ hL3
        have d1 : Dp K H4 (.ref x.1) (.tuple ((iN (tpw S m j)).map PyData.int)) := tupI_dp (SqT.of (S4 _ _ h3))
        have d2 : Dp K H4 (.ref y.1) (.tuple ((iN (tpw S m 12)).map PyData.int)) := tupI_dp (SqT.of (S4 _ _ y3))
        have ul : ((iN ((List.range j).filter fun k => decide (tpw S m k = tpw S m 12))).map V.int).length ≤ 60 := by
          rw [iN_len]
          refine Nat.le_trans (List.length_filter_le _ _) ?_
          rw [List.length_range]
          omega
        rw [Int.zero_add]
        try walk_at "go"
        refine ite2 (fun c => ?_) (fun c => ?_)
        · rw [bd_eqv] at c
          have e := of_decide_eq_true c
          try walk_at "go"
          refine ⟨⟨but_same hE S4 But.upd, ?_⟩⟩
          rw [upd_same, iN_snoc, List.range_succ, List.filter_append, List.filter_cons_of_pos (by exact decide_eq_true e)] <;> rfl
        · rw [bd_eqv] at c
          have e : ¬ tpw S m j = tpw S m 12 := fun z => c (decide_eq_true z)
          refine ⟨⟨S4, ?_⟩⟩
          rw [hE4, List.range_succ, List.filter_append, List.filter_cons_of_neg (by rw [decide_eq_false e]; decide), List.filter_nil, List.append_nil]
      rintro H4 ⟨S4, hE4⟩
      obtain ⟨k0, hk0, ek0⟩ := tpw_found s1 s5 hd
      have kne : ((List.range 12).filter fun k => decide (tpw S m k = tpw S m 12)).length ≠ 0 := fun z => by
        have := List.eq_nil_of_length_eq_zero z
        have hm : k0 ∈ (List.range 12).filter fun k => decide (tpw S m k = tpw S m 12) := List.mem_filter.mpr ⟨List.mem_range.mpr hk0, decide_eq_true ek0⟩
        rw [this] at hm
        exact absurd hm List.not_mem_nil
      generalize eks : ((List.range 12).filter fun k => decide (tpw S m k = tpw S m 12)) = ks at hE4 kne
      obtain ⟨l, el⟩ : ∃ l, ks.length = l + 1 := ⟨ks.length - 1, by omega⟩
      have ekk : ks[l]? = some ks[l] := List.getElem?_eq_getElem (by omega)
      have al := at_neg (xs := (iN ks).map V.int) (i := l) (by rw [iN_len, el]) (iN_at ekk)
      have mem : ∀ x ∈ ks, x < 12 ∧ tpw S m x = tpw S m 12 := fun x hx => by
        rw [← eks] at hx
        have := List.mem_filter.mp hx
        exact ⟨List.mem_range.mp this.1, of_decide_eq_true this.2⟩
      obtain ⟨kk12, ekk2⟩ := mem _ (List.getElem_mem (show l < ks.length by omega))
      generalize ks[l] = kk at al kk12 ekk2
      have pos : (0 : Int) < 12 - (kk : Int) := by omega
      have ei : (kk : Int) + ((n : Int) - 12) % (12 - (kk : Int)) = ((kk + (n - 12) % (12 - kk) : Nat) : Int) := by
        rw [show (n : Int) - 12 = ((n - 12 : Nat) : Int) by omega, show (12 : Int) - (kk : Int) = ((12 - kk : Nat) : Int) by omega, ← Int.natCast_emod] <;> push_cast <;> rfl
      have rl : (n - 12) % (12 - kk) < 12 - kk := Nat.mod_lt _ (by omega)
      obtain ⟨x, h1, h2, h3⟩ := at_ (kk + (n - 12) % (12 - kk)) (by omega)
      have af := atI_nat h2
      rw [← ei] at af
      have hL4 := S4 _ _ hL3
      try walk_at "go"
      refine q _ H4 (S3.trans S4) ?_
      rw [tpw_per kk12 ekk2 c']
      exact S4 _ _ h3
def spIn (K : PySem.W.Frag) : Sp := fun vs H Q _ => ∃ (v : V) (s : Span) (x : Int), vs = [v, .int x] ∧ SpV H v s ∧ Q (.bl (inS s x)) H
theorem k__law_within (D : Df K mg "_law_within" s__law_within ["_law_span", "_law_state"]) : Dn P w K mg base 1 "_law_within" ["_law_span", "_law_state"] (spIn K) := by
  refine D.ok fun f fd F => okG0 F sc__law_within (fun vs H Q E h => ?_) (fun cdv A outer s H vs Q E hr h => ⟨_, (pss_cons (ps_if (pt_cmpR op_isN (pv 0) pe_non (nomark _))
      (pss_one (ps_ret pe_bl))
      pss_nil)
    (pss_one (ps_ret (pe_and (pe_or (pe_cmpR op_isN (pe_ix (kk (K := K) (F := rIxT) (P := IxR _) ix_tup) (pv 0) pe_int (fun _ _ => rfl)) pe_non (nomark _)) (pe_one (pe_cmpR op_le (pe_ix (kk (K := K) (F := rIxT) (P := IxR _) ix_tup) (pv 0) pe_int (fun _ _ => rfl)) (pv 1) (nomark _)))) (pe_one (pe_or (pe_cmpR op_isN (pe_ix (kk (K := K) (F := rIxT) (P := IxR _) ix_tup) (pv 0) pe_int (fun _ _ => rfl)) pe_non (nomark _)) (pe_one (pe_cmpR op_le (pv 1) (pe_ix (kk (K := K) (F := rIxT) (P := IxR _) ix_tup) (pv 0) pe_int (fun _ _ => rfl)) (nomark _))))))))), ?_⟩)
  · obtain ⟨v, s, x, rfl, _⟩ := h; rfl
  · obtain ⟨v, s, x, rfl, hv, q⟩ := h
    cases s with
    | none =>
      cases (show v = .non from hv)
      try walk_at "go"
      exact ifT rfl q
    | some p =>
      obtain ⟨l, k⟩ := p
      obtain ⟨a, rfl, ha⟩ := hv
      cases l with
      | none =>
        cases k with
        | none =>
          try walk_at "go"
          exact ifT rfl q
        | some y =>
          try walk_at "go"
          exact q
      | some z =>
        by_cases c : z ≤ x
        · cases k with
          | none =>
            have q' : Q (.bl (decide (z ≤ x) && true)) H := q
            rw [decide_eq_true c] at q'
            try walk_at "go"
            refine ifT (decide_eq_true c) ?_
            try walk_at "go"
            exact ifT rfl q'
          | some y =>
            have q' : Q (.bl (decide (z ≤ x) && decide (x ≤ y))) H := q
            rw [decide_eq_true c] at q'
            try walk_at "go"
            refine ifT (decide_eq_true c) ?_
            try walk_at "go"
            exact q'
        · have q' : Q (.bl (decide (z ≤ x) && inH k x)) H := q
          rw [decide_eq_false c] at q'
          cases k
          all_goals
            try walk_at "go"
            exact ifF (decide_eq_false c) q'
def spKeeps (K : PySem.W.Frag) : Sp := fun vs H Q _ => ∃ (a T : Addr) (d : Dd) (S : Nat), vs = [.ref a, .ref T] ∧ H a = some (.tup d.vs) ∧ Kp S d ∧ S ≤ 5 ∧ H T = some (.tup ((iN (bt S d)).map V.int)) ∧ ∀ H', Same H H' → Q (.bl true) H'
theorem k__law_keeps (D : Df K mg "_law_keeps" s__law_keeps ["_law_deed", "_law_maker"]) (D_stays : Dn P w K mg base 5 "stays" ["deed"] (spStays K)) (D_leads : Dn P w K mg base 5 "leads" ["deed", "value"] (spLeads K)) (D__law_within : Dn P w K mg base 1 "_law_within" ["_law_span", "_law_state"] (spIn K)) : Dn P w K mg base 6 "_law_keeps" ["_law_deed", "_law_maker"] (spKeeps K) := by
  refine D.ok fun f fd F => okG0 F sc__law_keeps (fun vs H Q E h => ?_) (fun cdv A outer s H vs Q E hr h => ⟨_, (pss_cons (ps_for PassesOwn.never rfl (kk (K := K) (F := fun K => iEnumT K _) (P := PI _ _ _) (pi_enumT (by rfl) B.enumerate_ (pa_cons (pv 1) pa_nil))) (kk (K := K) (F := fun K => gTup K 2 _) (P := PG _ _) (pg_tup rfl (pgs_cons (pg_name (i := 2) sc__law_keeps.nd rfl (Or.inr rfl)) (pgs_cons (pg_name (i := 3) sc__law_keeps.nd rfl (Or.inr rfl)) pgs_nil))))
      (pss_cons (ps_if (pt_cmpR op_ne (pe_cD D__law_within (hr.less (by decide)) rfl (pa_cons (pe_cD D_stays (hr.less (by decide)) rfl (pa_cons (pv 0) pa_nil)) (pa_cons (pv 2) pa_nil))) (pe_cmpR op_eq (pv 3) (pv 2) (nomark _)) (nomark _))
        (pss_one (ps_ret pe_bl))
        pss_nil)
      (pss_one (ps_if (pt_not (pt_val (pe_callB (kk (K := K) (F := rAll) (P := CallR _ _) (cr_all rfl)) (by rfl) B.all_ (by decide +kernel) (pa_cons (pe_lc (own := [("_law_one", 4)]) (g := gName 4) (tt := tYes) rfl sc__law_keeps.nd (pi_range1 (by rfl) B.range_ (pa_cons (pe_callB (lenK (K := K)) (by rfl) B.len_ (by decide +kernel) (pa_cons (pv 1) pa_nil)) pa_nil)) (blkOk_by (own := [("_law_one", 4)]) (N := ["_law_deed", "_law_maker", "_law_state", "_law_other", "_law_one"]) (sc := defScope s__law_keeps) (by decide +kernel)) (fun _ _ _ _ _ => (pg_name (i := 4) sc__law_keeps.nd rfl (Or.inl rfl))) (fun _ _ _ _ _ => pts_nil) (fun _ _ _ _ _ => (pe_cmpR op_eq (pe_cD D__law_within (hr.less (by decide)) rfl (pa_cons (pe_cD D_leads (hr.less (by decide)) rfl (pa_cons (pv 0) (pa_cons (pv 4) pa_nil))) (pa_cons (pv 2) pa_nil))) (pe_cmpR op_eq (pv 3) (pv 4) (nomark _)) (nomark _)))) pa_nil))))
       (pss_one (ps_ret pe_bl))
       pss_nil))))
    (pss_one (ps_ret pe_bl))), ?_⟩)
  · obtain ⟨a, T, d, S, rfl, _⟩ := h; rfl
  · obtain ⟨a, T, d, S, rfl, ha, kd, s5, hT, q⟩ := h
    have bl : (bt S d).length = S := bt_len
    try walk_at "go"
    refine for_enumT (K := K) (a := T) (xs := (iN (bt S d)).map V.int) (fun i σ H' => Kept (∃ w2 w3 w4, σ = [some (.ref a), some (.ref T), w2, w3, w4] ∧ Same H H')) ⟨_, _, _, rfl, Same.refl H⟩ (fun i σ H' _ h => by obtain ⟨_, _, _, _, S⟩ := h.ex; exact SqT.of (S _ _ hT)) ?_ ?_
    · rintro i x P σ H2 hx ⟨w2, w3, w4, rfl, S2⟩ hP
      obtain ⟨o, rfl, ho⟩ := iN_mem hx
      have hi : i < S := by rw [← bl]; exact (List.getElem?_eq_some_iff.mp ho).1
      obtain ⟨r, er, hr⟩ := kd.at_ hi
      have eo : o = r := by
        have h1 := bt_get (d := d) hi
        rw [er, Int.toNat_natCast] at h1
        have h2 := getD_at (xs := bt S d) (j := i) (by omega)
        rw [ho, h1] at h2
        exact Option.some.inj h2
      subst eo
      generalize eH3 : upd _ P (HO.tup [.int (i : Nat), .int (o : Nat)]) = H3
      have SH3 := newS eH3 hP
      have oP := newO eH3
      have ha3 := SH3 _ _ (S2 _ _ ha)
      have da3 : DeedArg K H3 a d := ⟨.base (.tup ha3), SqT.of ha3, kd.ok⟩
      try walk_at "go"
      intro v H4 S4 hv
      try walk_at "go"
      have e1 : inS (staysD d) (i : Int) = decide (V.int (o : Nat) = V.int (i : Nat)) := by
        by_cases c : (o : Int) = (i : Int)
        · rw [(stays_in kd.ok _).mpr (by rw [er, c]), c, dec_self]
        · rw [decide_eq_false (fun z => c (V.int.inj z))]
          exact Bool.eq_false_iff.mpr fun z => c (by rw [← er]; exact (stays_in kd.ok _).mp z)
      rw [e1]
      refine ite2 (fun c => absurd c (by rw [dec_self]; decide)) (fun _ => ?_)
      have hT4 := S4 _ _ (SH3 _ _ (S2 _ _ hT))
      have lT : ((iN (bt S d)).map V.int).length = S := by rw [iN_len, bl]
      have tS : ((S : Nat) : Int).toNat = S := by omega
      try walk_at "go"
      intro E hE
      rw [lT, tS]
      refine lc_range (lo := 0) (n := S) (fun j H' => Kept (Same H4 H' ∧ H' E = some (.lst ((List.replicate j true).map V.bl)))) ⟨same_new hE _, upd_same⟩ ?_ ?_
      · rintro j H5 hj ⟨S5, hE5⟩
        have ha5 := S5 _ _ (S4 _ _ ha3)
        have da5 : DeedArg K H5 a d := ⟨.base (.tup ha5), SqT.of ha5, kd.ok⟩
        have ul : ((List.replicate j true).map V.bl).length ≤ 60 := by rw [List.length_map, List.length_replicate]; omega
        rw [Int.zero_add]
        try walk_at "go"
        intro v2 H6 S6 hv2
        have hE6 := S6 _ _ hE5
        try walk_at "go"
        have e2 : inS (leadsD d (j : Int)) (i : Int) = decide (V.int (o : Nat) = V.int (j : Nat)) := by
          by_cases c : (o : Int) = (j : Int)
          · rw [(leads_in kd.ok _ _).mpr (by rw [er, c]), c, dec_self]
          · rw [decide_eq_false (fun z => c (V.int.inj z))]
            exact Bool.eq_false_iff.mpr fun z => c (by rw [← er]; exact (leads_in kd.ok _ _).mp z)
        rw [e2, dec_self]
        exact ⟨⟨but_same hE (S5.trans S6) But.upd, by rw [upd_same, rep_snoc]⟩⟩
      rintro H5 ⟨S5, hE5⟩
      try walk_at "go"
      rw [rep_all]
      try walk_at "go"
      exact ⟨⟨_, _, _, rfl, S2.trans (SH3.trans (S4.trans S5))⟩⟩
    · rintro σ H2 ⟨w2, w3, w4, rfl, S2⟩
      exact q _ S2
omit B in
theorem po_ly {o : Option Int} : Ly 0 (po o) := by
  cases o with
  | none => exact .non
  | some x => exact .int
omit B in
theorem pd_ly {d : Dd} : Ly 1 (Toy.pd d) := .tup fun y hy => by
  simp only [List.mem_cons, List.not_mem_nil, or_false] at hy
  rcases hy with rfl | rfl | rfl
  · exact .int
  · exact po_ly
  · exact po_ly
omit B in
theorem refs_ly {ds : List Dd} : Ly 2 (refsD ds) := .tup fun y hy => by
  obtain ⟨d, _, rfl⟩ := List.mem_map.mp hy
  exact pd_ly
def spAsked (K : PySem.W.Frag) : Sp := fun vs H Q _ => ∃ (L T NU : Addr) (v : V) (t : Tr) (st S n : Nat) (qs : List (Addr × Dd)) (us : List (Addr × List Nat)) (ds : List Dd) (ns : List Nat), vs = [.ref L, .ref T, .ref NU, v, .int st] ∧
  H L = some (.lst (qs.map fun x => V.ref x.1)) ∧ (∀ x ∈ qs, Da H x.1 x.2 ∧ Kp S x.2) ∧ GridAt H T us S S ∧ 1 ≤ us.length ∧ us.length ≤ 4 ∧ 1 ≤ S ∧ S ≤ 5 ∧ gr us = ds.map (bt S) ∧ (∀ d ∈ ds, Cl S d) ∧ (dsOf qs).map (bt S) = kf (gp S (gr us) n) ∧ Fin' S (gr us) n ∧
  H NU = some (.tup ((iN ns).map V.int)) ∧ Bel ns qs.length ∧ 1 ≤ ns.length ∧ ns.length ≤ 20 ∧ TrAt H v t ∧ IsRow t 0 ∧ t.cnt = ns.length ∧ st < S ∧ ∀ H', Same H H' → Q (.bl true) H'
theorem k__law_asked (D : Df K mg "_law_asked" s__law_asked ["_law_wholes", "_law_makers", "_law_numbers", "_law_tree_here", "_law_start"]) (D_family : Dn P w K mg base 5 "family" ["deeds"] (spFamily K)) (D_own_table : Dn P w K mg base 6 "own_table" ["deeds"] (spOwn K)) (D_shared_out : Dn P w K mg base 46 "shared_out" ["deeds", "tree", "value"] (spShare K)) (D__law_by_table : Dn P w K mg base 7 "_law_by_table" ["_law_deed", "_law_states"] (spByT K)) (D_folded : Dn P w K mg base 45 "folded" ["deeds", "tree"] (spFold K)) (D_folded_by : Dn P w K mg base 47 "folded_by" ["table", "numbers", "tree"] (spFoldBy K)) (D_shared_by : Dn P w K mg base 84 "shared_by" ["deeds", "table", "numbers", "tree", "state"] (spShareBy K)) (D_played : Dn P w K mg base 7 "played" ["board", "asks"] (spPlay K)) (D_done : Dn P w K mg base 5 "done" ["deed", "value"] (spDone K)) (D_all_of : Dn P w K mg base 7 "all_of" ["board", "asks"] (spAll K)) (D_chained : Dn P w K mg base 5 "chained" ["many"] spChained) : Dn P w K mg base 90 "_law_asked" ["_law_wholes", "_law_makers", "_law_numbers", "_law_tree_here", "_law_start"] (spAsked K) := by
  refine D.ok fun f fd F => okG0 F sc__law_asked (fun vs H Q E h => ?_) (fun cdv A outer s H vs Q E hr h => ⟨_, (pss_cons (ps_set (i := 5) sc__law_asked.nd rfl (Or.inl rfl) (pe_cD D_family (hr.less (by decide)) rfl (pa_cons (pv 1) pa_nil)))
    (pss_cons (ps_set (i := 6) sc__law_asked.nd rfl (Or.inl rfl) (pe_cD D_own_table (hr.less (by decide)) rfl (pa_cons (pv 1) pa_nil)))
    (pss_cons (ps_set (i := 7) sc__law_asked.nd rfl (Or.inl rfl) (pe_callTy (tupOfK (K := K)) (by rfl) B.tuple_ (by decide +kernel) (pa_cons (pe_lc (own := [("_law_number", 10)]) (g := gName 10) (tt := tYes) rfl sc__law_asked.nd (kk (K := K) (F := fun K => iTup K _) (P := PI _ _ _) (pi_tup (pv 2))) (blkOk_by (own := [("_law_number", 10)]) (N := ["_law_wholes", "_law_makers", "_law_numbers", "_law_tree_here", "_law_start", "_law_some", "_law_table", "_law_deeds", "_law_values", "_law_asks", "_law_number", "_law_k", "_law_deed"]) (sc := defScope s__law_asked) (by decide +kernel)) (fun _ _ _ _ _ => (pg_name (i := 10) sc__law_asked.nd rfl (Or.inl rfl))) (fun _ _ _ _ _ => pts_nil) (fun _ _ _ _ _ => (pe_ix (kk (K := K) (F := rIxL) (P := IxR _) ix_list) (pv 0) (pv 10) (fun _ _ => rfl)))) pa_nil)))
    (pss_cons (ps_set (i := 8) sc__law_asked.nd rfl (Or.inl rfl) (pe_cD D_shared_out (hr.less (by decide)) rfl (pa_cons (pv 7) (pa_cons (pv 3) (pa_cons (pv 4) pa_nil)))))
    (pss_cons (ps_if (pt_cmpR (kk (K := K) (F := rNeD) (P := OpR _ _) (op_neD hr.units)) (pe_cD D__law_by_table (hr.less (by decide)) rfl (pa_cons (pe_cD D_folded (hr.less (by decide)) rfl (pa_cons (pv 7) (pa_cons (pv 3) pa_nil))) (pa_cons (pe_callB (lenK (K := K)) (by rfl) B.len_ (by decide +kernel) (pa_cons (pe_ix (kk (K := K) (F := rIxT) (P := IxR _) ix_tup) (pv 5) pe_int (fun _ _ => rfl)) pa_nil)) pa_nil))) (pe_ix (kk (K := K) (F := rIxT) (P := IxR _) ix_tup) (pv 5) (pe_cD D_folded_by (hr.less (by decide)) rfl (pa_cons (pv 6) (pa_cons (pv 2) (pa_cons (pv 3) pa_nil)))) (fun _ _ => rfl)) (nomark _))
      (pss_one (ps_ret pe_bl))
      pss_nil)
    (pss_cons (ps_if (pt_cmpR (kk (K := K) (F := rNeD) (P := OpR _ _) (op_neD hr.units)) (pe_cD D_shared_by (hr.less (by decide)) rfl (pa_cons (pv 5) (pa_cons (pv 6) (pa_cons (pv 2) (pa_cons (pv 3) (pa_cons (pv 4) pa_nil)))))) (pv 8) (nomark _))
      (pss_one (ps_ret pe_bl))
      pss_nil)
    (pss_cons (ps_set (i := 9) sc__law_asked.nd rfl (Or.inl rfl) (pe_callTy (tupOfK (K := K)) (by rfl) B.tuple_ (by decide +kernel) (pa_cons (pe_lc (own := [("_law_k", 11), ("_law_deed", 12)]) (tt := tYes) rfl sc__law_asked.nd (kk (K := K) (F := fun K => iEnumT K _) (P := PI _ _ _) (pi_enumT (by rfl) B.enumerate_ (pa_cons (pv 7) pa_nil))) (blkOk_by (own := [("_law_k", 11), ("_law_deed", 12)]) (N := ["_law_wholes", "_law_makers", "_law_numbers", "_law_tree_here", "_law_start", "_law_some", "_law_table", "_law_deeds", "_law_values", "_law_asks", "_law_number", "_law_k", "_law_deed"]) (sc := defScope s__law_asked) (by decide +kernel)) (fun _ _ _ _ _ => (kk (K := K) (F := fun K => gTup K 2 _) (P := PG _ _) (pg_tup rfl (pgs_cons (pg_name (i := 11) sc__law_asked.nd rfl (Or.inl rfl)) (pgs_cons (pg_name (i := 12) sc__law_asked.nd rfl (Or.inl rfl)) pgs_nil))))) (fun _ _ _ _ _ => pts_nil) (fun _ _ _ _ _ => (pe_tup (pa_cons (pe_op op_mod (pv 11) pe_int) (pa_cons pe_int (pa_cons (pv 12) pa_nil)))))) pa_nil)))
    (pss_cons (ps_if (pt_cmpR (kk (K := K) (F := rNeD) (P := OpR _ _) (op_neD hr.units)) (pe_cD D_played (hr.less (by decide)) rfl (pa_cons (pe_tup (pa_cons pe_int (pa_cons (pv 4) pa_nil))) (pa_cons (pv 9) pa_nil))) (pe_tup (pa_cons (pv 8) (pa_cons (pe_tup (pa_cons pe_int (pa_cons (pe_cD D_done (hr.less (by decide)) rfl (pa_cons (pe_cD D_folded (hr.less (by decide)) rfl (pa_cons (pv 7) (pa_cons (pv 3) pa_nil))) (pa_cons (pv 4) pa_nil))) pa_nil))) pa_nil))) (nomark _))
      (pss_one (ps_ret pe_bl))
      pss_nil)
    (pss_one (ps_ret (pe_cmpR (kk (K := K) (F := rEqD) (P := OpR _ _) (op_eqD hr.units)) (pe_cD D_all_of (hr.less (by decide)) rfl (pa_cons (pe_tup (pa_cons pe_int (pa_cons (pv 4) pa_nil))) (pa_cons (pv 9) pa_nil))) (pe_tup (pa_cons (pe_tup (pa_cons pe_int (pa_cons pe_non (pa_cons pe_non pa_nil)))) (pa_cons (pe_cD D_folded (hr.less (by decide)) rfl (pa_cons (pv 7) (pa_cons (pe_cD D_chained (hr.less (by decide)) rfl (pa_cons (pe_callB (lenK (K := K)) (by rfl) B.len_ (by decide +kernel) (pa_cons (pv 7) pa_nil)) pa_nil)) pa_nil))) pa_nil))) (nomark _)))))))))))), ?_⟩)
  · obtain ⟨L, T, NU, v, t, st, S, n, qs, us, ds, ns, rfl, _⟩ := h; rfl
  · obtain ⟨L, T, NU, v, t, st, S, n, qs, us, ds, ns, rfl, hL, hqs, g, r1, r4, s1, s5, eus, cls, btW, fin, hNU, hbn, nl1, nl20, tr, row, cnt, hst, q⟩ := h
    have few : Few S (gr us) := by rw [eus]; exact .inl (cl_fam s1 s5 cls)
    have dts := g.dts
    try walk_at "go"
    intro A ls n1 H1 S1 F1
    have en1 : n1 = n := F1.fin.uniq fin
    rw [en1] at F1
    have g1 := g.same S1
    try walk_at "go"
    intro U ts n2 H2 S2 gT tl fin2 own
    have en2 : n2 = n := fin2.uniq fin
    rw [en2] at gT tl own
    have lenF : (gp S (gr us) n).length = ls.length := by rw [← kf_len, ← F1.eq, List.length_map]
    rw [lenF] at gT tl
    rw [← (show gr ls = kf (gp S (gr us) n) from F1.eq)] at own btW
    have F2 := F1.same S2
    have O := own_of dts F2 gT tl own
    have gll : (gr ls).length = ls.length := by unfold gr; rw [List.length_map]
    have qdl : (dsOf qs).length = qs.length := by unfold dsOf; rw [List.length_map]
    have ql : qs.length = ls.length := by
      have := congrArg List.length btW
      rw [List.length_map] at this
      omega
    have n1' := F2.n1
    have n60 := F2.n60
    have hL2 := S2 _ _ (S1 _ _ hL)
    have hNU2 := S2 _ _ (S1 _ _ hNU)
    try walk_at "go"
    intro E7 hE7
    refine lc_tup (K := K) (a := NU) (xs := (iN ns).map V.int) (fun j H' => Kept (∃ rs7 : List (Addr × Dd), Same H2 H' ∧ H' E7 = some (.lst (rs7.map fun x => V.ref x.1)) ∧ rs7.length = j ∧ (∀ x ∈ rs7, x ∈ qs) ∧ dsOf rs7 = dsw (dsOf qs) (ns.take j))) ⟨[], same_new hE7 _, upd_same, rfl, fun x hx => absurd hx List.not_mem_nil, rfl⟩ (fun i H' _ h => by obtain ⟨_, S, _⟩ := h.ex; exact SqT.of (S _ _ hNU2)) ?_ ?_
    · rintro j v H20 hv ⟨rs7, S20, hE20, hrl, hrq, hrd⟩
      obtain ⟨k, rfl, hk⟩ := iN_mem hv
      have kl : k < qs.length := hbn _ (List.mem_of_getElem? hk)
      have hj : j < ns.length := (List.getElem?_eq_some_iff.mp hk).1
      have hL20 := S20 _ _ hL2
      have ak : atI (qs.map fun x => V.ref x.1) (k : Int) = some (.ref qs[k].1) := atI_nat (by rw [List.getElem?_map, List.getElem?_eq_getElem kl] <;> rfl)
      have ul : (rs7.map fun x => V.ref x.1).length ≤ 60 := by rw [List.length_map]; omega
      try walk_at "go"
      refine ⟨⟨rs7 ++ [(qs[k].1, qs[k].2)], but_same hE7 S20 But.upd, by rw [upd_same, map_snoc], by rw [List.length_append, hrl] <;> rfl, fun x hx => ?_, ?_⟩⟩
      · rcases List.mem_append.mp hx with z | z
        · exact hrq x z
        · rw [List.mem_singleton.mp z]
          exact List.getElem_mem kl
      · rw [dsOf_snoc, hrd, take_snoc hk, show dsw (dsOf qs) (ns.take j ++ [k]) = dsw (dsOf qs) (ns.take j) ++ [(dsOf qs).getD k look] by unfold dsw; rw [List.map_append] <;> rfl]
        congr 2
        unfold dsOf
        rw [List.getD_eq_getElem?_getD, List.getElem?_map, List.getElem?_eq_getElem kl] <;> rfl
    rintro H3 ⟨rs7, S3, hE3, hrl, hrq, hrd⟩
    rw [iN_len, List.take_length] at hrd
    rw [iN_len] at hrl
    try walk_at "go"
    intro DT hDT
    generalize eH4 : upd _ DT _ = H4
    have SH4 := newS eH4 hDT
    have oDT := newO eH4
    have S24 := S3.trans SH4
    have S04 := S1.trans (S2.trans S24)
    have dsA : DsAt H4 DT rs7 := ⟨oDT, by omega, by omega, fun x hx => ((hqs x (hrq x hx)).1).same S04⟩
    have tr4 := tr.same S04
    have cnt3 : t.cnt = rs7.length := by omega
    try walk_at "go"
    intro SO H5 S5 hSO
    have kpW : ∀ d ∈ dsOf qs, Kp S d := fun d hd => by obtain ⟨x, hx, rfl⟩ := List.mem_map.mp hd; exact (hqs x hx).2
    have kb : Kp S (behs (dsOf rs7)) := by rw [hrd]; exact behs_kp (dsw_kp kpW _)
    have dsA5 := dsA.same S5
    have tr5 := tr4.same S5
    try walk_at "go"
    intro a H6 S6 ha
    have F6 := F2.same (S24.trans (S5.trans S6))
    have hA6 := F6.top
    have a0 := refs_atI (rs := ls) (j := 0) (by omega)
    have gA6 := F6.grid dts
    obtain ⟨t0, tl0, tb0⟩ := gr_row gA6 (j := 0) (by omega)
    have lt0 : ((iN ((gr ls).getD 0 [])).map V.int).length = S := by rw [iN_len, tl0]
    have ta6 : TupAt K H6 a (behs (dsOf rs7)).vs := .inl ha
    try walk_at "go"
    rw [lt0]
    refine ⟨kb, s5, fun TB H7 S7 hTBn hTB => ?_⟩
    have gT7 := gT.same (S24.trans (S5.trans (S6.trans S7)))
    have F7 := F6.same S7
    have hA7 := F7.top
    have hNU7 := (S24.trans (S5.trans (S6.trans S7))) _ _ hNU2
    have tr7 := (tr5.same S6).same S7
    have h0 : 0 < (gr ls).length := by omega
    have hbN : Bel ns (gr ls).length := by rw [gll, ← ql]; exact hbn
    have hz : 0 + t.cnt ≤ ns.length := by omega
    have nl40 : ns.length ≤ 40 := by omega
    have hbl : Bel ns ls.length := by rw [← ql]; exact hbn
    try walk_at "go"
    intro H8 S8
    obtain ⟨fl, fe⟩ := fv_prd O h0 hbN row hz
    rw [cnt] at fe
    generalize fv (gr ts) ns t = fvv at fl fe
    rw [gll] at fl
    have first : ((dsOf qs).map (bt S)).getD 0 [] = List.range S := by rw [btW]; exact O.first
    have hbW : Bel ns (dsOf qs).length := by rw [qdl]; exact hbn
    rw [← btW, prd_bt kpW first hbW ns.length (Nat.le_refl _), List.take_length, ← hrd, btW] at fe
    have F8 := F7.same S8
    have hA8 := F8.top
    have af := refs_atI (rs := ls) fl
    have gA8 := F8.grid dts
    obtain ⟨tf, lf, bf⟩ := gr_row gA8 fl
    rw [fe] at tf
    have d1 : Dp K H8 (.ref TB) (.tuple ((iN (bt S (behs (dsOf rs7)))).map PyData.int)) := tupI_dp (SqT.of (S8 _ _ hTB))
    have d2 : Dp K H8 (.ref ls[fvv].1) (.tuple ((iN (bt S (behs (dsOf rs7)))).map PyData.int)) := tupI_dp (SqT.of tf)
    try walk_at "go"
    refine ite2 (fun c => absurd c (by rw [tupI_refl]; decide)) (fun _ => ?_)
    have S28 := S24.trans (S5.trans (S6.trans (S7.trans S8)))
    have gT8 := gT7.same S8
    have hNU8 := S8 _ _ hNU7
    have tr8 := tr7.same S8
    have lN : ls.length = ls.length := rfl
    try walk_at "go"
    intro SB H9 S9 hSB
    have eA := ans_prd kpW first hbW hst
    rw [sv_prd O h0 hbN row hz hst, cnt, ← btW, eA, ← hrd] at hSB
    have hSO9 := (S6.trans (S7.trans (S8.trans S9))) _ _ hSO
    have d3 : Dp K H9 (.ref SB) (.tuple ((ans (st : Nat) (dsOf rs7)).map PyData.int)) := tupI_dp (SqT.of hSB)
    have d4 : Dp K H9 (.ref SO) (.tuple ((ans (st : Nat) (dsOf rs7)).map PyData.int)) := tupI_dp (SqT.of hSO9)
    clear d1 d2
    try walk_at "go"
    refine ite2 (fun c => absurd c (by rw [tupI_refl]; decide)) (fun _ => ?_)
    have dsA9 := dsA5.same (S6.trans (S7.trans (S8.trans S9)))
    have hDT9 := dsA9.1
    try walk_at "go"
    intro E hE
    refine lc_it (I := IteT K DT) (n := rs7.length) (fun i H' => Kept (∃ as : List Ak, Same H9 H' ∧ H' E = some (.lst (as.map fun x => V.ref x.a)) ∧ as.length = i ∧ (∀ x ∈ as, x.at_ H' 2 ∧ x.box = 1) ∧ (as.map fun x => x.d) = (dsOf rs7).take i)) ⟨[], same_new hE _, upd_same, rfl, fun x hx => absurd hx List.not_mem_nil, rfl⟩ ?_ ?_ ?_ ?_
    · rintro i H' hi ⟨as, S10, _⟩
      exact ⟨_, _, SqT.of (S10 _ _ hDT9), by rw [List.getElem?_map, List.getElem?_eq_getElem hi] <;> rfl⟩
    · rintro H' ⟨as, S10, _⟩
      exact ⟨_, SqT.of (S10 _ _ hDT9), by rw [List.length_map]⟩
    · rintro i x H10 H10' hi ⟨as, S10, hE10, hal, hat, had⟩ ⟨P, x0, rfl, hP, rfl, hx⟩
      have hx := hx _ (SqT.of (S10 _ _ hDT9))
      rw [List.getElem?_map, List.getElem?_eq_getElem hi] at hx
      cases (Option.some.inj hx)
      generalize eH11 : upd _ P (HO.tup [.int (i : Nat), .ref rs7[i].1]) = H11
      have SH11 := newS eH11 hP
      have oP := newO eH11
      have ul : (as.map fun x => V.ref x.a).length ≤ 60 := by rw [List.length_map]; omega
      have hdi := (dsA9.2.2.2 _ (List.getElem_mem hi)).same (S10.trans SH11)
      try walk_at "go"
      intro R hR
      generalize eH12 : upd _ R _ = H12
      have SH12 := newS eH12 hR
      have oR := newO eH12
      have hE12 := SH12 _ _ (SH11 _ _ hE10)
      try walk_at "go"
      have tk := tk_lst (zs := (as.map fun x => V.ref x.a) ++ [.ref R]) hE12
      have e1 : (dsOf rs7)[i]? = some rs7[i].2 := by unfold dsOf; rw [List.getElem?_map, List.getElem?_eq_getElem hi] <;> rfl
      refine ⟨⟨as ++ [⟨R, (i : Int) % 16, 1, rs7[i].1, rs7[i].2⟩], but_same hE (S10.trans (SH11.trans SH12)) But.upd, by rw [upd_same, map_snoc], by rw [List.length_append, hal] <;> rfl, fun x hx => ?_, by rw [map_snoc, had, take_snoc e1]⟩⟩
      rcases List.mem_append.mp hx with z | z
      · obtain ⟨h1, h2⟩ := hat x z
        have h3 := (h1.same SH11).same SH12
        exact ⟨⟨tk _ _ h3.1, ⟨tk _ _ h3.2.1.1, h3.2.1.2⟩, h3.2.2⟩, h2⟩
      · cases List.mem_singleton.mp z
        have hd2 := hdi.same SH12
        exact ⟨⟨tk _ _ oR, ⟨tk _ _ hd2.1, hd2.2⟩, Int.emod_nonneg _ (by decide), Int.emod_lt_of_pos _ (by decide), (show 1 < 2 by decide)⟩, rfl⟩
    rintro H10 ⟨as, S10, hE10, hal, hat, had⟩
    have dl7 : (dsOf rs7).length = rs7.length := by unfold dsOf; rw [List.length_map]
    rw [← dl7, List.take_length] at had
    try walk_at "go"
    intro AK hAK
    generalize eH11 : upd _ AK _ = H11
    have SH11 := newS eH11 hAK
    have oAK := newO eH11
    have box1 : ∀ x ∈ as, x.box = 1 := fun x hx => (hat x hx).2
    have akA : AsksAt H11 AK as 2 := ⟨oAK, by omega, fun x hx => ((hat x hx).1).same SH11⟩
    try walk_at "go"
    intro BD hBD
    generalize eH12 : upd _ BD _ = H12
    have SH12 := newS eH12 hBD
    have oBD := newO eH12
    have bdA : BoardAt H12 BD [9, (st : Int)] := ⟨oBD, by show 1 ≤ 2; decide, by show 2 ≤ 16; decide⟩
    have akA12 := akA.same SH12
    have akB12 : AsksAt H12 AK as ([9, (st : Int)] : List Int).length := akA12
    try walk_at "go"
    intro r t1 t2 H13 S13 hr ht1 ht2
    have epl : play as [9, (st : Int)] = (ans (st : Int) (dsOf rs7), [9, aps (st : Int) (dsOf rs7)]) := by
      unfold play
      rw [play_one as [] box1, had, List.nil_append]
    rw [epl] at ht1 ht2
    have S513 := S6.trans (S7.trans (S8.trans (S9.trans (S10.trans (SH11.trans (SH12.trans S13))))))
    have hSO13 := S513 _ _ hSO
    have dsA13 := dsA5.same S513
    have tr13 := tr5.same S513
    try walk_at "go"
    intro a2 H14 S14 ha2
    have da14 : DeedArg K H14 a2 (behs (dsOf rs7)) := ⟨.base (.tup ha2), SqT.of ha2, kb.ok⟩
    try walk_at "go"
    intro B2 hB2
    generalize eH15 : upd _ B2 _ = H15
    have SH15 := newS eH15 hB2
    have oB2 := newO eH15
    try walk_at "go"
    intro R2 hR2
    generalize eH16 : upd _ R2 _ = H16
    have SH16 := newS eH16 hR2
    have oR2 := newO eH16
    have oks : Oks (dsOf rs7) := dsA.oks
    rw [behs_ap oks] at oB2
    have S1316 := S14.trans (SH15.trans SH16)
    have d5 : Dp K H16 (.ref r) (.tuple [.tuple ((ans (st : Nat) (dsOf rs7)).map PyData.int), .tuple (([9, aps (st : Int) (dsOf rs7)] : List Int).map PyData.int)]) := dp_tup2 (SqT.of (S1316 _ _ hr)) (tupI_dp (SqT.of (S1316 _ _ ht1))) (tupI_dp (SqT.of (S1316 _ _ ht2)))
    have d6 : Dp K H16 (.ref R2) (.tuple [.tuple ((ans (st : Nat) (dsOf rs7)).map PyData.int), .tuple (([9, aps (st : Int) (dsOf rs7)] : List Int).map PyData.int)]) := dp_tup2 (SqT.of oR2) (tupI_dp (SqT.of (S1316 _ _ hSO13))) (tupI_dp (SqT.of (SH16 _ _ oB2)))
    have ly6 : Ly 2 (.tuple [.tuple ((ans (st : Nat) (dsOf rs7)).map PyData.int), .tuple (([9, aps (st : Int) (dsOf rs7)] : List Int).map PyData.int)]) := .tup2 .tupI .tupI
    have d7 := ly6.sh
    clear d3 d4
    try walk_at "go"
    refine ite2 (fun c => absurd c (by rw [ly6.refl]; decide)) (fun _ => ?_)
    try walk_at "go"
    intro BD2 hBD2
    generalize eH17 : upd _ BD2 _ = H17
    have SH17 := newS eH17 hBD2
    have oBD2 := newO eH17
    have akA17 : AsksAt H17 AK as ([9, (st : Int)] : List Int).length := akA12.same (S13.trans (S1316.trans SH17))
    have bdA17 : BoardAt H17 BD2 [9, (st : Int)] := ⟨oBD2, by show 1 ≤ 2; decide, by show 2 ≤ 16; decide⟩
    try walk_at "go"
    intro AL ps H18 S18 hAL hps rfs
    have hps2 : dsOf ps = [look, behs (dsOf rs7)] := by
      rw [hps, ← had]
      exact made_one box1
    try walk_at "go"
    intro LK hLK
    generalize eH19 : upd _ LK _ = H19
    have SH19 := newS eH19 hLK
    have oLK := newO eH19
    have dsA19 := dsA13.same (S1316.trans (SH17.trans (S18.trans SH19)))
    have hDT19 := dsA19.1
    have lDT : (rs7.map fun x => V.ref x.1).length = rs7.length := List.length_map _
    try walk_at "go"
    intro v2 H20 S20 trc
    rw [lDT] at trc
    have dsA20 := dsA19.same S20
    have rowc := ch_row (rs7.length - 1)
    have cntc : (ch (rs7.length - 1)).cnt = rs7.length := by rw [(ch_is (rs7.length - 1)).1]; omega
    try walk_at "go"
    intro a3 H21 S21 ha3
    try walk_at "go"
    intro R3 hR3
    generalize eH22 : upd _ R3 _ = H22
    have SH22 := newS eH22 hR3
    have oR3 := newO eH22
    have S1822 := SH19.trans (S20.trans (S21.trans SH22))
    have d8 : Dp K H22 (.ref AL) (refsD [look, behs (dsOf rs7)]) := by rw [← hps2]; exact refs_dp (SqT.of (S1822 _ _ hAL)) (rfs.same S1822)
    have d9 : Dp K H22 (.ref R3) (refsD [look, behs (dsOf rs7)]) := refs_dp (ps := [(LK, look), (a3, behs (dsOf rs7))]) (SqT.of oR3) fun x hx => by
      simp only [List.mem_cons, List.not_mem_nil, or_false] at hx
      rcases hx with rfl | rfl
      · exact SqT.of ((S20.trans (S21.trans SH22)) _ _ oLK)
      · exact SqT.of (SH22 _ _ ha3)
    have d10 : SeqAt.shaped (refsD [look, behs (dsOf rs7)]) = true := refs_ly.sh
    clear d5 d6 d7
    try walk_at "go"
    rw [refs_ly.refl]
    exact q _ (S04.trans (S5.trans (S513.trans (S1316.trans (SH17.trans (S18.trans S1822))))))
def spRight96 (K : PySem.W.Frag) : Sp := fun vs H Q _ => ∃ p : Addr, vs = [.ref p] ∧ PotAt H p ∧ ∀ H', But p H H' → Q (.bl true) H'
theorem k__law_right (D : Df K mg "_law_right" s__law_right ["_law_store_here"]) (D__law_draw : Dn P w K mg base 1 "_law_draw" ["_law_store_here", "_law_many"] spTake) (D__law_drawn : Dn P w K mg base 3 "_law_drawn" ["_law_store_here", "_law_states"] spClD) (D__law_by_table : Dn P w K mg base 7 "_law_by_table" ["_law_deed", "_law_states"] (spByT K)) (D__law_made : Dn P w K mg base 46 "_law_made" ["_law_deeds", "_law_word"] (spMadeF K)) (D_words : Dn P w K mg base 5 "words" ["deeds"] (spWords K)) (D_family : Dn P w K mg base 5 "family" ["deeds"] (spFamily K)) (D_again : Dn P w K mg base 5 "again" ["deed", "many"] (spAgain K)) (D__law_power : Dn P w K mg base 2 "_law_power" ["_law_maker", "_law_many"] (spPower K)) (D__law_keeps : Dn P w K mg base 6 "_law_keeps" ["_law_deed", "_law_maker"] (spKeeps K)) (D__law_tree : Dn P w K mg base 42 "_law_tree" ["_law_store_here", "_law_first", "_law_many"] (spLT6 40)) (D__law_asked : Dn P w K mg base 90 "_law_asked" ["_law_wholes", "_law_makers", "_law_numbers", "_law_tree_here", "_law_start"] (spAsked K)) : Dn P w K mg base 92 "_law_right" ["_law_store_here"] (spRight96 K) := by
  refine D.ok fun f fd F => okG0 F sc__law_right (fun vs H Q E h => ?_) (fun cdv A outer s H vs Q E hr h => ⟨_, (pss_cons (ps_set (i := 1) sc__law_right.nd rfl (Or.inl rfl) (pe_op op_add pe_int (pe_cD D__law_draw (hr.less (by decide)) rfl (pa_cons (pv 0) (pa_cons pe_int pa_nil)))))
    (pss_cons (ps_set (i := 2) sc__law_right.nd rfl (Or.inr rfl) (pe_op op_add pe_int (pe_cD D__law_draw (hr.less (by decide)) rfl (pa_cons (pv 0) (pa_cons pe_int pa_nil)))))
    (pss_cons (ps_set (i := 3) sc__law_right.nd rfl (Or.inl rfl) (pe_ix (kk (K := K) (F := rIxL) (P := IxR _) ix_list) (pe_lst (pa_cons (pe_cD D__law_draw (hr.less (by decide)) rfl (pa_cons (pv 0) (pa_cons pe_int pa_nil))) (pa_cons (pe_cD D__law_draw (hr.less (by decide)) rfl (pa_cons (pv 0) (pa_cons (pe_op op_pow pe_int pe_int) pa_nil))) pa_nil))) (pe_cD D__law_draw (hr.less (by decide)) rfl (pa_cons (pv 0) (pa_cons pe_int pa_nil))) (fun _ _ => rfl)))
    (pss_cons (ps_set (i := 4) sc__law_right.nd rfl (Or.inr rfl) (pe_lc (own := [("_law_k", 11)]) (g := gName 11) (tt := tYes) rfl sc__law_right.nd (pi_range1 (by rfl) B.range_ (pa_cons (pe_op op_add pe_int (pe_cD D__law_draw (hr.less (by decide)) rfl (pa_cons (pv 0) (pa_cons pe_int pa_nil)))) pa_nil)) (blkOk_by (own := [("_law_k", 11)]) (N := ["_law_store_here", "_law_many", "_law_states", "_law_often", "_law_deeds", "_law_deed", "_law_makers", "_law_wholes", "_law_maker", "_law_numbers", "_law_tree_here", "_law_k", "_law_word", "_law_whole"]) (sc := defScope s__law_right) (by decide +kernel)) (fun _ _ _ _ _ => (pg_name (i := 11) sc__law_right.nd rfl (Or.inl rfl))) (fun _ _ _ _ _ => pts_nil) (fun _ _ _ _ _ => (pe_cD D__law_drawn (hr.less (by decide)) rfl (pa_cons (pv 0) (pa_cons (pv 2) pa_nil))))))
    (pss_cons (ps_set (i := 6) sc__law_right.nd rfl (Or.inl rfl) (pe_callTy (tupOfK (K := K)) (by rfl) B.tuple_ (by decide +kernel) (pa_cons (pe_lc (own := [("_law_deed", 5)]) (g := gName 5) (tt := tYes) rfl sc__law_right.nd (kk (K := K) (F := fun K => iList K _) (P := PI _ _ _) (pi_list (pv 4))) (blkOk_by (own := [("_law_deed", 5)]) (N := ["_law_store_here", "_law_many", "_law_states", "_law_often", "_law_deeds", "_law_deed", "_law_makers", "_law_wholes", "_law_maker", "_law_numbers", "_law_tree_here", "_law_k", "_law_word", "_law_whole"]) (sc := defScope s__law_right) (by decide +kernel)) (fun _ _ _ _ _ => (pg_name (i := 5) sc__law_right.nd rfl (Or.inl rfl))) (fun _ _ _ _ _ => pts_nil) (fun _ _ _ _ _ => (pe_cD D__law_by_table (hr.less (by decide)) rfl (pa_cons (pv 5) (pa_cons (pv 2) pa_nil))))) pa_nil)))
    (pss_cons (ps_set (i := 7) sc__law_right.nd rfl (Or.inr rfl) (pe_lc (own := [("_law_word", 12)]) (g := gName 12) (tt := tYes) rfl sc__law_right.nd (kk (K := K) (F := fun K => iTup K _) (P := PI _ _ _) (pi_tup (pe_cD D_words (hr.less (by decide)) rfl (pa_cons (pv 6) pa_nil)))) (blkOk_by (own := [("_law_word", 12)]) (N := ["_law_store_here", "_law_many", "_law_states", "_law_often", "_law_deeds", "_law_deed", "_law_makers", "_law_wholes", "_law_maker", "_law_numbers", "_law_tree_here", "_law_k", "_law_word", "_law_whole"]) (sc := defScope s__law_right) (by decide +kernel)) (fun _ _ _ _ _ => (pg_name (i := 12) sc__law_right.nd rfl (Or.inl rfl))) (fun _ _ _ _ _ => pts_nil) (fun _ _ _ _ _ => (pe_cD D__law_made (hr.less (by decide)) rfl (pa_cons (pv 4) (pa_cons (pv 12) pa_nil))))))
    (pss_cons (ps_if (pt_cmpR (kk (K := K) (F := rNeD) (P := OpR _ _) (op_neD hr.units)) (pe_lc (own := [("_law_whole", 13)]) (g := gName 13) (tt := tYes) rfl sc__law_right.nd (kk (K := K) (F := fun K => iList K _) (P := PI _ _ _) (pi_list (pv 7))) (blkOk_by (own := [("_law_whole", 13)]) (N := ["_law_store_here", "_law_many", "_law_states", "_law_often", "_law_deeds", "_law_deed", "_law_makers", "_law_wholes", "_law_maker", "_law_numbers", "_law_tree_here", "_law_k", "_law_word", "_law_whole"]) (sc := defScope s__law_right) (by decide +kernel)) (fun _ _ _ _ _ => (pg_name (i := 13) sc__law_right.nd rfl (Or.inl rfl))) (fun _ _ _ _ _ => pts_nil) (fun _ _ _ _ _ => (pe_cD D__law_by_table (hr.less (by decide)) rfl (pa_cons (pv 13) (pa_cons (pv 2) pa_nil))))) (pe_callTy (lstOfK (K := K)) (by rfl) B.list_ (by decide +kernel) (pa_cons (pe_cD D_family (hr.less (by decide)) rfl (pa_cons (pv 6) pa_nil)) pa_nil)) (nomark _))
      (pss_one (ps_ret pe_bl))
      pss_nil)
    (pss_cons (ps_for PassesOwn.never rfl (kk (K := K) (F := fun K => iZipN K _) (P := PI _ _ _) (pi_zipN (by rfl) B.zip_ (pa_cons (pv 4) (pa_cons (pv 6) pa_nil)))) (kk (K := K) (F := fun K => gTup K 2 _) (P := PG _ _) (pg_tup rfl (pgs_cons (pg_name (i := 5) sc__law_right.nd rfl (Or.inl rfl)) (pgs_cons (pg_name (i := 8) sc__law_right.nd rfl (Or.inl rfl)) pgs_nil))))
      (pss_cons (ps_if (pt_cmpR (kk (K := K) (F := rNeD) (P := OpR _ _) (op_neD hr.units)) (pe_cD D__law_by_table (hr.less (by decide)) rfl (pa_cons (pe_cD D_again (hr.less (by decide)) rfl (pa_cons (pv 5) (pa_cons (pv 3) pa_nil))) (pa_cons (pv 2) pa_nil))) (pe_cD D__law_power (hr.less (by decide)) rfl (pa_cons (pv 8) (pa_cons (pv 3) pa_nil))) (nomark _))
        (pss_one (ps_ret pe_bl))
        pss_nil)
      (pss_one (ps_if (pt_not (pt_val (pe_cD D__law_keeps (hr.less (by decide)) rfl (pa_cons (pv 5) (pa_cons (pv 8) pa_nil)))))
       (pss_one (ps_ret pe_bl))
       pss_nil))))
    (pss_cons (ps_set (i := 9) sc__law_right.nd rfl (Or.inl rfl) (pe_callTy (tupOfK (K := K)) (by rfl) B.tuple_ (by decide +kernel) (pa_cons (pe_lc (own := [("_law_k", 11)]) (g := gName 11) (tt := tYes) rfl sc__law_right.nd (pi_range1 (by rfl) B.range_ (pa_cons (pv 1) pa_nil)) (blkOk_by (own := [("_law_k", 11)]) (N := ["_law_store_here", "_law_many", "_law_states", "_law_often", "_law_deeds", "_law_deed", "_law_makers", "_law_wholes", "_law_maker", "_law_numbers", "_law_tree_here", "_law_k", "_law_word", "_law_whole"]) (sc := defScope s__law_right) (by decide +kernel)) (fun _ _ _ _ _ => (pg_name (i := 11) sc__law_right.nd rfl (Or.inl rfl))) (fun _ _ _ _ _ => pts_nil) (fun _ _ _ _ _ => (pe_cD D__law_draw (hr.less (by decide)) rfl (pa_cons (pv 0) (pa_cons (pe_callB (lenK (K := K)) (by rfl) B.len_ (by decide +kernel) (pa_cons (pv 7) pa_nil)) pa_nil))))) pa_nil)))
    (pss_cons (ps_set (i := 10) sc__law_right.nd rfl (Or.inl rfl) (pe_cD D__law_tree (hr.less (by decide)) rfl (pa_cons (pv 0) (pa_cons pe_int (pa_cons (pv 1) pa_nil)))))
    (pss_one (ps_ret (pe_cD D__law_asked (hr.less (by decide)) rfl (pa_cons (pv 7) (pa_cons (pv 6) (pa_cons (pv 9) (pa_cons (pv 10) (pa_cons (pe_cD D__law_draw (hr.less (by decide)) rfl (pa_cons (pv 0) (pa_cons (pv 2) pa_nil))) pa_nil)))))))))))))))))), ?_⟩)
  · obtain ⟨p, rfl, _⟩ := h; rfl
  · obtain ⟨p, rfl, hp, q⟩ := h
    try walk_at "go"
    intro m' H1 m20 b1 p1
    obtain ⟨m, em, m1, m20'⟩ : ∃ m : Nat, (1 : Int) + (m' : Int) = (m : Int) ∧ 1 ≤ m ∧ m ≤ 20 := ⟨m' + 1, by omega, by omega, by omega⟩
    have e13 : (fun i j : Int => V.int (i + j)) 1 (m' : Int) = V.int (m : Int) := congrArg V.int em
    try walk_at "go"
    rw [e13]
    intro S' H2 S4 b2 p2
    obtain ⟨S, eS, s1, s5⟩ : ∃ S : Nat, (1 : Int) + (S' : Int) = (S : Int) ∧ 1 ≤ S ∧ S ≤ 5 := ⟨S' + 1, by omega, by omega, by omega⟩
    have e14 : (fun i j : Int => V.int (i + j)) 1 (S' : Int) = V.int (S : Int) := congrArg V.int eS
    try walk_at "go"
    rw [e14]
    intro u1 Ha u1l ba pa
    have cp : CPow 10 30 := ⟨by decide, by decide, by decide⟩
    try walk_at "go"
    intro u2 Hb u2l bb pb
    have u2l' : (u2 : Int) < 10 ^ 30 := u2l
    try walk_at "go"
    intro M hM
    generalize eHc : upd _ M _ = Hc
    have SHc := newS eHc hM
    have oM := newO eHc
    have pc := pb.same SHc
    try walk_at "go"
    intro i2 Hd i2l bd pd
    have npM : M ≠ p := pot_ne pb hM
    have hMd := bd _ _ npM oM
    obtain ⟨often, hof, hofl⟩ : ∃ o : Nat, atI ([V.int (u1 : Nat), V.int (u2 : Nat)] : List V) (i2 : Int) = some (.int (o : Nat)) ∧ o ≤ 10 ^ 30 := by
      rcases (by omega : i2 = 0 ∨ i2 = 1) with z | z
      · subst z
        exact ⟨u1, rfl, by omega⟩
      · subst z
        exact ⟨u2, rfl, by omega⟩
    try walk_at "go"
    intro n' H3 n4 b3 p3
    have en : ((1 : Int) + (n' : Int)).toNat = n' + 1 := by omega
    try walk_at "go"
    intro D hD
    rw [en]
    have b13 : But p H H3 := b1.trans (b2.trans (ba.trans (bb.trans ((same_but SHc).trans (bd.trans b3)))))
    have npD : D ≠ p := pot_ne p3 hD
    refine lc_range (lo := 0) (n := n' + 1) (fun i H' => Kept (∃ ps : List (Addr × Dd), But p H3 H' ∧ PotAt H' p ∧ H' D = some (.lst (ps.map fun x => V.ref x.1)) ∧ ps.length = i ∧ QsAt H' ps ∧ ∀ x ∈ ps, Cl S x.2)) ⟨[], same_but (same_new hD _), p3.same (same_new hD _), upd_same, rfl, fun x hx => absurd hx List.not_mem_nil, fun x hx => absurd hx List.not_mem_nil⟩ ?_ ?_
    · rintro i H4 hi ⟨ps, B4, p4, hD4, hl4, hq4, hc4⟩
      have ul : (ps.map fun x => V.ref x.1).length ≤ 16 := by rw [List.length_map]; omega
      try walk_at "go"
      intro a d H5 b5 p5 han had hcl
      have hD5 := b5 _ _ npD hD4
      try walk_at "go"
      refine ⟨⟨ps ++ [(a, d)], (B4.trans b5).fr hD, p5.fr (Ne.symm npD), by rw [upd_same, map_snoc], by rw [List.length_append, hl4] <;> rfl, ((hq4.keep (pot_keep b5 p4)).snoc had).keep (tk_lst hD5), fun x hx => ?_⟩⟩
      rcases List.mem_append.mp hx with z | z
      · exact hc4 x z
      · cases List.mem_singleton.mp z
        exact hcl
    rintro H4 ⟨ps, B4, p4, hD4, hl4, hq4, hc4⟩
    have b14 := b13.trans B4
    have dl : (dsOf ps).length = ps.length := by unfold dsOf; rw [List.length_map]
    have cls : ∀ d ∈ dsOf ps, Cl S d := fun d hd => by
      obtain ⟨x, hx, rfl⟩ := List.mem_map.mp hd
      exact hc4 x hx
    have kps : ∀ d ∈ dsOf ps, Kp S d := fun d hd => (cls d hd).kp
    try walk_at "go"
    intro E hE
    refine lc_list (K := K) (a := D) (xs := ps.map fun x => V.ref x.1) (fun i H' => Kept (∃ us : List (Addr × List Nat), Same H4 H' ∧ H' E = some (.lst (us.map fun x => V.ref x.1)) ∧ us.length = i ∧ RsAt H' us ∧ gr us = ((dsOf ps).take i).map (bt S))) ⟨[], same_new hE _, upd_same, rfl, fun x hx => absurd hx List.not_mem_nil, rfl⟩ (fun i H' _ h => by obtain ⟨_, S, _⟩ := h.ex; exact SqL.of (S _ _ hD4)) ?_ ?_
    · rintro i v H5 hv ⟨us, S5, hE5, hul, hr5, hg5⟩
      rw [List.getElem?_map] at hv
      obtain ⟨⟨a, d⟩, ha, rfl⟩ := Option.map_eq_some_iff.mp hv
      have hi : i < ps.length := (List.getElem?_eq_some_iff.mp ha).1
      have hm := List.mem_of_getElem? ha
      have hd5 : TupAt K H5 a d.vs := .inl (S5 _ _ (hq4 _ hm))
      have kd := (hc4 _ hm).kp
      have ul : (us.map fun x => V.ref x.1).length ≤ 60 := by rw [List.length_map]; omega
      try walk_at "go"
      intro U H6 S6 hUn hU6
      have hE6 := S6 _ _ hE5
      try walk_at "go"
      have e1 : (dsOf ps)[i]? = some d := by unfold dsOf; rw [List.getElem?_map, ha] <;> rfl
      exact ⟨⟨us ++ [(U, bt S d)], but_same hE (S5.trans S6) But.upd, by rw [upd_same, map_snoc], by rw [List.length_append, hul] <;> rfl, ((hr5.same S6).snoc hU6).keep (tk_lst hE6), by rw [gr_snoc, hg5, take_map_snoc e1]⟩⟩
    rintro H5 ⟨us, S5, hE5, hul, hr5, hg5⟩
    rw [List.length_map] at hul hg5
    rw [← dl, List.take_length] at hg5
    try walk_at "go"
    intro T hT
    generalize eH6 : upd _ T _ = H6
    have SH6 := newS eH6 hT
    have oT := newO eH6
    have S46 := S5.trans SH6
    have g6 : GridAt H6 T us S S := ⟨oT, fun x hx => ⟨SH6 _ _ (hr5 x hx), by
      have hx2 : x.2 ∈ (dsOf ps).map (bt S) := by rw [← hg5]; exact List.mem_map.mpr ⟨x, hx, rfl⟩
      obtain ⟨d, hd, e⟩ := List.mem_map.mp hx2
      rw [← e]
      exact bt_dt (kps d hd)⟩⟩
    have p6 := p4.same S46
    have few : Few S (gr us) := by rw [hg5]; exact .inl (cl_fam s1 s5 cls)
    have dts := g6.dts
    try walk_at "go"
    intro W ws n H8 S8 W8
    have f40 : (gp S (gr us) n).length ≤ 40 := by
      have h1 := W8.fin.fam
      rw [hg5] at h1
      have h2 := cl_fam40 s1 s5 cls h1
      rw [kf_len] at h2
      rw [hg5]
      exact h2
    have hD8 := S8 _ _ (S46 _ _ hD4)
    have hq8 := (hq4.same S46).same S8
    have g8 := g6.same S8
    have hW8 := W8.top
    have wl : ws.length = (gp S (gr us) n).length := by
      have h1 := congrArg List.length W8.eq
      rwa [List.length_map, List.length_map] at h1
    have wsb : ∀ x ∈ ws, Bel x.2 ps.length ∧ x.2.length ≤ 40 := fun x hx => by
      have h1 : x.2 ∈ (gp S (gr us) n).map fun x => x.2 := by rw [← W8.eq]; exact List.mem_map.mpr ⟨x, hx, rfl⟩
      obtain ⟨y, hy, e⟩ := List.mem_map.mp h1
      have gq := gp_gq (S := S) (M := gr us) n
      have h2 := gq.wb y hy
      have h3 := gq.wl y hy
      rw [← e]
      rw [hg5, List.length_map, dl] at h2
      exact ⟨h2, by omega⟩
    have das : ∀ x ∈ ps, Da H8 x.1 x.2 := fun x hx => ⟨hq8 x hx, In.le ((hc4 x hx).ins s5) (by decide), (hc4 x hx).kp.ok⟩
    try walk_at "go"
    intro L hL
    refine lc_tup (K := K) (a := W) (xs := ws.map fun x => V.ref x.1) (fun i H' => Kept (∃ qs : List (Addr × Dd), Same H8 H' ∧ H' L = some (.lst (qs.map fun x => V.ref x.1)) ∧ qs.length = i ∧ QsAt H' qs ∧ dsOf qs = ((gr ws).take i).map fun w => behs (dsw (dsOf ps) w))) ⟨[], same_new hL _, upd_same, rfl, fun x hx => absurd hx List.not_mem_nil, rfl⟩ (fun i H' _ h => by obtain ⟨_, S, _⟩ := h.ex; exact SqT.of (S _ _ hW8)) ?_ ?_
    · rintro i v H9 hv ⟨qs, S9, hL9, hql, hq9, hg9⟩
      rw [List.getElem?_map] at hv
      obtain ⟨⟨a, d⟩, ha, rfl⟩ := Option.map_eq_some_iff.mp hv
      have hi : i < ws.length := (List.getElem?_eq_some_iff.mp ha).1
      have hm := List.mem_of_getElem? ha
      have hd9 := S9 _ _ (W8.rs _ hm)
      have hD9 := S9 _ _ hD8
      have ok9 : ∀ x ∈ ps, Da H9 x.1 x.2 := fun x hx => (das x hx).same S9
      have hbl := (wsb _ hm).1
      have h40 := (wsb _ hm).2
      have ul : (qs.map fun x => V.ref x.1).length ≤ 60 := by rw [List.length_map]; omega
      try walk_at "go"
      intro a' H10 S10 hat
      have hL10 := S10 _ _ hL9
      try walk_at "go"
      have e1 : (gr ws)[i]? = some d := by unfold gr; rw [List.getElem?_map, ha] <;> rfl
      exact ⟨⟨qs ++ [(a', _)], but_same hL (S9.trans S10) But.upd, by rw [upd_same, map_snoc], by rw [List.length_append, hql] <;> rfl, ((hq9.same S10).snoc hat).keep (tk_lst hL10), by rw [dsOf_snoc, hg9, take_map_snoc e1]⟩⟩
    rintro H9 ⟨qs, S9, hL9, hql, hq9, hg9⟩
    have gwl : (gr ws).length = ws.length := by unfold gr; rw [List.length_map]
    rw [List.length_map] at hql hg9
    rw [← gwl, List.take_length] at hg9
    have kqs : ∀ x ∈ qs, Kp S x.2 := fun x hx => by
      have h1 : x.2 ∈ (gr ws).map fun w => behs (dsw (dsOf ps) w) := by rw [← hg9]; exact List.mem_map.mpr ⟨x, hx, rfl⟩
      obtain ⟨w, _, e⟩ := List.mem_map.mp h1
      rw [← e]
      exact behs_kp (dsw_kp kps w)
    have btW : (dsOf qs).map (bt S) = kf (gp S (gr us) n) := by
      have e2 : gr ws = (gp S (gr us) n).map fun x => x.2 := W8.eq
      rw [hg9, List.map_map, e2, hg5, ← whole_bt kps n] <;> rfl
    have ins : ∀ x ∈ qs, x.2.In (10 ^ 80) := fun x hx => by
      have h1 : x.2 ∈ (gr ws).map fun w => behs (dsw (dsOf ps) w) := by rw [← hg9]; exact List.mem_map.mpr ⟨x, hx, rfl⟩
      obtain ⟨w, hw, e⟩ := List.mem_map.mp h1
      obtain ⟨y, hy, ey⟩ := List.mem_map.mp hw
      have wl60 := (wsb y hy).2
      rw [ey] at wl60
      have h2 : (behs (dsw (dsOf ps) w)).In ((dsw (dsOf ps) w).length * 10) := behs_in (by decide) fun d hd => by
        obtain ⟨i, _, rfl⟩ := List.mem_map.mp hd
        rw [List.getD_eq_getElem?_getD]
        cases e : (dsOf ps)[i]? with
        | none => exact look_in (by decide)
        | some z => exact (cls z (List.mem_of_getElem? e)).ins s5
      rw [← e]
      refine In.le h2 ?_
      rw [dsw_len]
      have h3 : ((w.length : Nat) : Int) * 10 ≤ 600 := by omega
      exact Int.le_trans h3 (by decide)
    have qdl : (dsOf qs).length = qs.length := by unfold dsOf; rw [List.length_map]
    try walk_at "go"
    intro E3 hE3
    refine lc_list (K := K) (a := L) (xs := qs.map fun x => V.ref x.1) (fun i H' => Kept (∃ vs3 : List (Addr × List Nat), Same H9 H' ∧ H' E3 = some (.lst (vs3.map fun x => V.ref x.1)) ∧ vs3.length = i ∧ RsAt H' vs3 ∧ gr vs3 = ((dsOf qs).take i).map (bt S))) ⟨[], same_new hE3 _, upd_same, rfl, fun x hx => absurd hx List.not_mem_nil, rfl⟩ (fun i H' _ h => by obtain ⟨_, S, _⟩ := h.ex; exact SqL.of (S _ _ hL9)) ?_ ?_
    · rintro i v H10 hv ⟨vs3, S10, hE10, hvl, hr10, hg10⟩
      rw [List.getElem?_map] at hv
      obtain ⟨⟨a, d⟩, ha, rfl⟩ := Option.map_eq_some_iff.mp hv
      have hi : i < qs.length := (List.getElem?_eq_some_iff.mp ha).1
      have hm := List.mem_of_getElem? ha
      have hd10 : TupAt K H10 a d.vs := .inl (S10 _ _ (hq9 _ hm))
      have kd := kqs _ hm
      have ul : (vs3.map fun x => V.ref x.1).length ≤ 60 := by rw [List.length_map]; omega
      try walk_at "go"
      intro U H11 S11 hUn hU11
      have hE11 := S11 _ _ hE10
      try walk_at "go"
      have e1 : (dsOf qs)[i]? = some d := by unfold dsOf; rw [List.getElem?_map, ha] <;> rfl
      exact ⟨⟨vs3 ++ [(U, bt S d)], but_same hE3 (S10.trans S11) But.upd, by rw [upd_same, map_snoc], by rw [List.length_append, hvl] <;> rfl, ((hr10.same S11).snoc hU11).keep (tk_lst hE11), by rw [gr_snoc, hg10, take_map_snoc e1]⟩⟩
    rintro H10 ⟨vs3, S10, hE10, hvl, hr10, hg10⟩
    rw [List.length_map] at hg10
    rw [← qdl, List.take_length, btW] at hg10
    have g10 := (g8.same S9).same S10
    try walk_at "go"
    intro A ls n1 H11 S11 F11
    have en1 : n1 = n := F11.fin.uniq W8.fin
    rw [en1] at F11
    have hA11 := F11.top
    try walk_at "go"
    intro L2 hL2
    generalize eH12 : upd _ L2 _ = H12
    have SH12 := newS eH12 hL2
    have oL2 := newO eH12
    have F12 := F11.same SH12
    have S1012 := S11.trans SH12
    have d1 : Dp K H12 (.ref E3) (gdL (kf (gp S (gr us) n))) := by rw [← hg10]; exact gdL_dp (S1012 _ _ hE10) (hr10.same S1012)
    have d2 : Dp K H12 (.ref L2) (gdL (kf (gp S (gr us) n))) := by rw [← F12.eq]; exact gdL_dp oL2 F12.rs
    have d3 : SeqAt.shaped (gdL (kf (gp S (gr us) n))) = true := gdL_ly.sh
    try walk_at "go"
    refine ite2 (fun c => absurd c (by rw [gdL_ly.refl]; decide)) (fun _ => ?_)
    clear d1 d2 d3
    have S812 := S9.trans (S10.trans S1012)
    have g12 := g8.same S812
    have hD12 := S812 _ _ hD8
    have hT12 := g12.top
    have das12 : ∀ x ∈ ps, Da H12 x.1 x.2 := fun x hx => (das x hx).same S812
    have usl : us.length = ps.length := hul
    try walk_at "go"
    refine for_it (I := ItzN K D T) (n := ps.length) (fun i σ H' => Kept (∃ w5 w8 w9 w10 w11 w12 w13, σ = [some (.ref p), some (.int (m : Nat)), some (.int (S : Nat)), some (.int (often : Nat)), some (.ref D), w5, some (.ref T), some (.ref L), w8, w9, w10, w11, w12, w13] ∧ Same H12 H')) ⟨_, _, _, _, _, _, _, rfl, fun _ _ h => h⟩ ?_ ?_ ?_ ?_
    · rintro i σ H' hi ⟨_, _, _, _, _, _, _, _, S13⟩
      exact ⟨_, _, .ref ps[i].1, .ref us[i].1, SqL.of (S13 _ _ hD12), SqT.of (S13 _ _ hT12), by rw [List.getElem?_map, List.getElem?_eq_getElem (by omega)] <;> rfl, by rw [List.getElem?_map, List.getElem?_eq_getElem (by omega)] <;> rfl⟩
    · rintro σ H' ⟨_, _, _, _, _, _, _, _, S13⟩
      exact ⟨_, _, SqL.of (S13 _ _ hD12), SqT.of (S13 _ _ hT12), .inl (by rw [List.length_map]; exact Nat.le_refl _)⟩
    · rintro i x σ H13 H13' hi ⟨w5, w8, w9, w10, w11, w12, w13, rfl, S13⟩ ⟨P, x0, y0, rfl, hP, rfl, hx, hy⟩
      have hx := hx _ (SqL.of (S13 _ _ hD12))
      have hy := hy _ (SqT.of (S13 _ _ hT12))
      rw [List.getElem?_map, List.getElem?_eq_getElem (by omega)] at hx hy
      cases (Option.some.inj hx)
      cases (Option.some.inj hy)
      generalize eH14 : upd _ P (HO.tup [.ref ps[i].1, .ref us[i].1]) = H14
      have SH14 := newS eH14 hP
      have oP := newO eH14
      have S14 := S13.trans SH14
      have mi : ps[i] ∈ ps := List.getElem_mem (by omega)
      have hda := (das12 _ mi).same S14
      have da14 := hda.arg (K := K)
      have hcl := hc4 _ mi
      have i10 := hcl.ins s5
      have hadd : ps[i].2.add.natAbs < 2 ^ 10000 := Nat.lt_of_le_of_lt (m := 10) (by have := i10.1; have := i10.2.1; omega) (by decide)
      have hoft : often < 2 ^ 10000 := Nat.lt_of_le_of_lt hofl (by decide)
      have eui : us[i].2 = bt S ps[i].2 := by
        have h1 : (gr us)[i]? = some us[i].2 := by unfold gr; rw [List.getElem?_map, List.getElem?_eq_getElem (by omega)] <;> rfl
        rw [hg5, List.getElem?_map, show (dsOf ps)[i]? = some ps[i].2 by unfold dsOf; rw [List.getElem?_map, List.getElem?_eq_getElem (by omega)] <;> rfl] at h1
        exact (Option.some.inj h1).symm
      have hmk : H14 us[i].1 = some (.tup ((iN (bt S ps[i].2)).map V.int)) := by
        rw [← eui]
        exact S14 _ _ (g12.rows _ (List.getElem_mem (by omega))).1
      have kpi := hcl.kp
      try walk_at "go"
      intro r H15 S15 tr15
      have kpw := pw_kp kpi often
      try walk_at "go"
      intro TB H16 S16 hTBn hTB
      have hmk16 := S16 _ _ (S15 _ _ hmk)
      have dmk := bt_dt kpi
      try walk_at "go"
      intro U H17 S17 hU
      rw [tpw_bt kpi] at hU
      have d1 : Dp K H17 (.ref TB) (.tuple ((iN (bt S (pw ps[i].2 often))).map PyData.int)) := tupI_dp (SqT.of (S17 _ _ hTB))
      have d2 : Dp K H17 (.ref U) (.tuple ((iN (bt S (pw ps[i].2 often))).map PyData.int)) := tupI_dp (SqT.of hU)
      try walk_at "go"
      refine ite2 (fun c => absurd c (by rw [tupI_refl]; decide)) (fun _ => ?_)
      have S1417 := S15.trans (S16.trans S17)
      have had17 := S1417 _ _ hda.1
      have hmk17 := S17 _ _ hmk16
      try walk_at "go"
      intro H18 S18
      try walk_at "go"
      exact ⟨⟨_, _, _, _, _, _, _, rfl, S14.trans (S1417.trans S18)⟩⟩
    rintro σ H13 ⟨w5, w8, w9, w10, w11, w12, w13, rfl, S13⟩
    have S613 := S8.trans (S812.trans S13)
    have p13 := p6.same S613
    have hL13 := (S10.trans (S1012.trans S13)) _ _ hL9
    have ll : (qs.map fun x => V.ref x.1).length = qs.length := List.length_map _
    have tm : ((m : Nat) : Int).toNat = m := by omega
    have b113 : But p H H13 := b14.trans (same_but (S46.trans S613))
    have q1 : 1 ≤ qs.length := by
      have h1 := W8.fin.fam.one
      have h2 := List.length_pos_of_mem h1
      rw [kf_len] at h2
      omega
    try walk_at "go"
    intro E6 hE6
    rw [tm]
    have npE : E6 ≠ p := pot_ne p13 hE6
    have npL : L ≠ p := pot_ne (p6.same S8) hL
    refine lc_range (lo := 0) (n := m) (fun j H' => Kept (∃ d : List Nat, But p H13 H' ∧ PotAt H' p ∧ H' E6 = some (.lst ((iN d).map V.int)) ∧ d.length = j ∧ Bel d qs.length)) ⟨[], same_but (same_new hE6 _), p13.same (same_new hE6 _), upd_same, rfl, fun x hx => absurd hx List.not_mem_nil⟩ ?_ ?_
    · rintro j H14 hj ⟨d, B14, p14, hE14, hl14, hb14⟩
      have hL14 := B14 _ _ npL hL13
      have ul : ((iN d).map V.int).length ≤ 60 := by rw [iN_len]; omega
      try walk_at "go"
      intro y H15 y1 b15 p15
      rw [ll] at y1
      have hE15 := b15 _ _ npE hE14
      try walk_at "go"
      exact ⟨⟨d ++ [y], (B14.trans b15).fr hE6, p15.fr (Ne.symm npE), by rw [upd_same, iN_snoc], by rw [List.length_append, hl14] <;> rfl, hb14.snoc (by omega)⟩⟩
    rintro H14 ⟨ns, B14, p14, hE14, hln, hbn⟩
    try walk_at "go"
    intro NU hNU
    generalize eH15 : upd _ NU _ = H15
    have SH15 := newS eH15 hNU
    have oNU := newO eH15
    have p15 := p14.same SH15
    try walk_at "go"
    intro v t H16 b16 p16 tr row cnt
    try walk_at "go"
    intro st H17 st1 b17 p17
    have hst : st < S := by omega
    have b1317 : But p H13 H17 := B14.trans ((same_but SH15).trans (b16.trans b17))
    have k17 := pot_keep b1317 p13
    have hL17 := b1317 _ _ npL hL13
    have hq17 := (hq9.same (S10.trans (S1012.trans S13))).keep k17
    have hqs17 : ∀ x ∈ qs, Da H17 x.1 x.2 ∧ Kp S x.2 := fun x hx => ⟨⟨hq17 x hx, ins x hx, (kqs x hx).ok⟩, kqs x hx⟩
    have g17 := (g12.same S13).keep k17
    have tr17 := tr.but b17 p16.choose_spec.choose_spec.1
    have hNU17 := pot_keep (b16.trans b17) p15 _ _ oNU
    have cnt2 : t.cnt = ns.length := by omega
    have nl1 : 1 ≤ ns.length := by omega
    have nl20 : ns.length ≤ 20 := by omega
    have fin8 := W8.fin
    try walk_at "go"
    intro H18 S18
    exact q _ (b113.trans (b1317.trans (same_but S18)))
def spLaw (K : PySem.W.Frag) : Sp := fun vs H Q _ => ∃ (a : Addr) (ns : List Int), vs = [.ref a] ∧ SqL K H a (ns.map V.int) ∧ ns.length ≤ 63 ∧ ∀ H', Q (.bl true) H'
theorem k_law {f : Addr} {fd : FuncData} (F : Fun K "law" "law" s_law f fd) (D__law_store : Dn P w K mg base 1 "_law_store" ["_law_script", "_law_k"] (spPot6 K)) (D__law_right : Dn P w K mg base 92 "_law_right" ["_law_store_here"] (spRight96 K)) : FnG P w K mg base CX0 95 f fd ["_law_script"] (spLaw K) := by
  refine okG0 F sc_law (fun vs H Q E h => ?_) (fun cdv A outer s H vs Q E hr h => ⟨_, (pss_cons (ps_for PassesOwn.never rfl (pi_range1 (by rfl) B.range_ (pa_cons (pe_callB (call_max2 rfl) (by rfl) B.max_ (by decide +kernel) (pa_cons pe_int (pa_cons (pe_callB (call_min2 rfl) (by rfl) B.min_ (by decide +kernel) (pa_cons pe_int (pa_cons (pe_callB (lenK (K := K)) (by rfl) B.len_ (by decide +kernel) (pa_cons (pv 0) pa_nil)) pa_nil))) pa_nil))) pa_nil)) (pg_name (i := 1) sc_law.nd rfl (Or.inl rfl))
      (pss_one (ps_if (pt_not (pt_val (pe_cD D__law_right (hr.less (by decide)) rfl (pa_cons (pe_cD D__law_store (hr.less (by decide)) rfl (pa_cons (pv 0) (pa_cons (pv 1) pa_nil))) pa_nil))))
       (pss_one (ps_ret pe_bl))
       pss_nil)))
    (pss_one (ps_ret pe_bl))), ?_⟩)
  · obtain ⟨a, ns, rfl, _⟩ := h; rfl
  · obtain ⟨a, ns, rfl, hS, hl, q⟩ := h
    try walk_at "go"
    have hN : (if (if (((ns.map V.int).length : Nat) : Int) < 5 then (((ns.map V.int).length : Nat) : Int) else 5) > 1 then (if (((ns.map V.int).length : Nat) : Int) < 5 then (((ns.map V.int).length : Nat) : Int) else 5) else 1).toNat ≤ 8 := by split <;> split <;> omega
    generalize (if (if (((ns.map V.int).length : Nat) : Int) < 5 then (((ns.map V.int).length : Nat) : Int) else 5) > 1 then (if (((ns.map V.int).length : Nat) : Int) < 5 then (((ns.map V.int).length : Nat) : Int) else 5) else 1).toNat = n at hN ⊢
    refine for_range (lo := 0) (n := n) (fun i σ H2 => Kept (∃ v1 : Option V, σ = [some (.ref a), v1] ∧ Same H H2)) ⟨_, rfl, Same.refl H⟩ ?_ ?_
    · rintro i σ H2 hi ⟨v1, rfl, S2⟩
      rw [Int.zero_add]
      try walk_at "go"
      intro p H3 np S3 p3
      try walk_at "go"
      intro H4 b4
      try walk_at "go"
      exact ⟨⟨_, rfl, S2.trans (but_same np S3 b4)⟩⟩
    · rintro σ H2 ⟨v1, rfl, S2⟩
      exact q _
end
structure AllD (K : PySem.W.Frag) (mg : Str → Option Value) : Prop where
  d_is_whole : Df K mg "is_whole" s_is_whole ["thing"]
  d_is_within : Df K mg "is_within" s_is_within ["thing", "least", "most"]
  d_is_row_of : Df K mg "is_row_of" s_is_row_of ["thing", "many"]
  d_want_whole : Df K mg "want_whole" s_want_whole ["thing"]
  d_want_within : Df K mg "want_within" s_want_within ["thing", "least", "most"]
  d_want_from : Df K mg "want_from" s_want_from ["thing", "least"]
  d_is_by_table : Df K mg "is_by_table" s_is_by_table ["thing", "states"]
  d_are_by_table : Df K mg "are_by_table" s_are_by_table ["thing", "most"]
  d_one_then : Df K mg "one_then" s_one_then ["one", "other"]
  d_grown : Df K mg "grown" s_grown ["deeds"]
  d_want_makers : Df K mg "want_makers" s_want_makers ["deeds"]
  d_family : Df K mg "family" s_family ["deeds"]
  d_words : Df K mg "words" s_words ["deeds"]
  d_is_end : Df K mg "is_end" s_is_end ["thing"]
  d_is_deed : Df K mg "is_deed" s_is_deed ["thing"]
  d_want_deed : Df K mg "want_deed" s_want_deed ["thing"]
  d_put_through : Df K mg "put_through" s_put_through ["deed", "value"]
  d_done : Df K mg "done" s_done ["deed", "value"]
  d_whole_deed : Df K mg "whole_deed" s_whole_deed ["add", "low", "high"]
  d_one_behind : Df K mg "one_behind" s_one_behind ["one", "other"]
  d_again : Df K mg "again" s_again ["deed", "many"]
  d_is_board : Df K mg "is_board" s_is_board ["thing"]
  d_want_board : Df K mg "want_board" s_want_board ["board"]
  d_is_ask : Df K mg "is_ask" s_is_ask ["board", "thing"]
  d_are_asks : Df K mg "are_asks" s_are_asks ["board", "thing"]
  d_want_asks : Df K mg "want_asks" s_want_asks ["board", "asks"]
  d_played : Df K mg "played" s_played ["board", "asks"]
  d_all_of : Df K mg "all_of" s_all_of ["board", "asks"]
  d_want_many : Df K mg "want_many" s_want_many ["many"]
  d_is_tree : Df K mg "is_tree" s_is_tree ["thing", "many"]
  d_want_deeds : Df K mg "want_deeds" s_want_deeds ["deeds"]
  d_want_tree : Df K mg "want_tree" s_want_tree ["tree", "many"]
  d_folded_of : Df K mg "folded_of" s_folded_of ["deeds", "tree"]
  d_folded : Df K mg "folded" s_folded ["deeds", "tree"]
  d_shared_of : Df K mg "shared_of" s_shared_of ["deeds", "tree", "value"]
  d_shared_out : Df K mg "shared_out" s_shared_out ["deeds", "tree", "value"]
  d_chained : Df K mg "chained" s_chained ["many"]
  d_are_numbers : Df K mg "are_numbers" s_are_numbers ["thing", "many"]
  d_is_table : Df K mg "is_table" s_is_table ["thing"]
  d_want_table : Df K mg "want_table" s_want_table ["table"]
  d_want_by_table : Df K mg "want_by_table" s_want_by_table ["deeds", "table"]
  d_want_numbers : Df K mg "want_numbers" s_want_numbers ["table", "numbers"]
  d_want_grouped : Df K mg "want_grouped" s_want_grouped ["numbers", "tree"]
  d_own_table : Df K mg "own_table" s_own_table ["deeds"]
  d_fold : Df K mg "fold" s_fold ["table", "numbers", "tree"]
  d_share : Df K mg "share" s_share ["deeds", "table", "numbers", "tree", "state"]
  d_folded_by : Df K mg "folded_by" s_folded_by ["table", "numbers", "tree"]
  d_shared_by : Df K mg "shared_by" s_shared_by ["deeds", "table", "numbers", "tree", "state"]
  d_stays : Df K mg "stays" s_stays ["deed"]
  d_is_beyond : Df K mg "is_beyond" s_is_beyond ["deed", "value"]
  d_leads : Df K mg "leads" s_leads ["deed", "value"]
  d__law_store : Df K mg "_law_store" s__law_store ["_law_script", "_law_k"]
  d__law_draw : Df K mg "_law_draw" s__law_draw ["_law_store_here", "_law_many"]
  d__law_tree : Df K mg "_law_tree" s__law_tree ["_law_store_here", "_law_first", "_law_many"]
  d__law_drawn : Df K mg "_law_drawn" s__law_drawn ["_law_store_here", "_law_states"]
  d__law_by_table : Df K mg "_law_by_table" s__law_by_table ["_law_deed", "_law_states"]
  d__law_made : Df K mg "_law_made" s__law_made ["_law_deeds", "_law_word"]
  d__law_power : Df K mg "_law_power" s__law_power ["_law_maker", "_law_many"]
  d__law_within : Df K mg "_law_within" s__law_within ["_law_span", "_law_state"]
  d__law_keeps : Df K mg "_law_keeps" s__law_keeps ["_law_deed", "_law_maker"]
  d__law_asked : Df K mg "_law_asked" s__law_asked ["_law_wholes", "_law_makers", "_law_numbers", "_law_tree_here", "_law_start"]
  d__law_right : Df K mg "_law_right" s__law_right ["_law_store_here"]
  d_law : Df K mg "law" s_law ["_law_script"]
  bl : Bl K mg
theorem all_mk {w : World} {K : PySem.W.Frag} {h : Heap} {mg : Str → Option Value} (X : K.In h) (G : h.Ns mainGlobals mg)
    {f1 f2 f3 f4 f5 f6 f7 f8 f9 f10 f11 f12 f13 f14 f15 f16 f17 f18 f19 f20 f21 f22 f23 f24 f25 f26 f27 f28 f29 f30 f31 f32 f33 f34 f35 f36 f37 f38 f39 f40 f41 f42 f43 f44 f45 f46 f47 f48 f49 f50 f51 f52 f53 f54 f55 f56 f57 f58 f59 f60 f61 f62 f63 : Addr} {od1 an1 od2 an2 od3 an3 od4 an4 od5 an5 od6 an6 od7 an7 od8 an8 od9 an9 od10 an10 od11 an11 od12 an12 od13 an13 od14 an14 od15 an15 od16 an16 od17 an17 od18 an18 od19 an19 od20 an20 od21 an21 od22 an22 od23 an23 od24 an24 od25 an25 od26 an26 od27 an27 od28 an28 od29 an29 od30 an30 od31 an31 od32 an32 od33 an33 od34 an34 od35 an35 od36 an36 od37 an37 od38 an38 od39 an39 od40 an40 od41 an41 od42 an42 od43 an43 od44 an44 od45 an45 od46 an46 od47 an47 od48 an48 od49 an49 od50 an50 od51 an51 od52 an52 od53 an53 od54 an54 od55 an55 od56 an56 od57 an57 od58 an58 od59 an59 od60 an60 od61 an61 od62 an62 od63 an63 : Option Addr} {sl1 sl2 sl3 sl4 sl5 sl6 sl7 sl8 sl9 sl10 sl11 sl12 sl13 sl14 sl15 sl16 sl17 sl18 sl19 sl20 sl21 sl22 sl23 sl24 sl25 sl26 sl27 sl28 sl29 sl30 sl31 sl32 sl33 sl34 sl35 sl36 sl37 sl38 sl39 sl40 sl41 sl42 sl43 sl44 sl45 sl46 sl47 sl48 sl49 sl50 sl51 sl52 sl53 sl54 sl55 sl56 sl57 sl58 sl59 sl60 sl61 sl62 sl63 : Array (Option Value)} {oc1 kV1 dc1 pm1 cd1 ct1 oc2 kV2 dc2 pm2 cd2 ct2 oc3 kV3 dc3 pm3 cd3 ct3 oc4 kV4 dc4 pm4 cd4 ct4 oc5 kV5 dc5 pm5 cd5 ct5 oc6 kV6 dc6 pm6 cd6 ct6 oc7 kV7 dc7 pm7 cd7 ct7 oc8 kV8 dc8 pm8 cd8 ct8 oc9 kV9 dc9 pm9 cd9 ct9 oc10 kV10 dc10 pm10 cd10 ct10 oc11 kV11 dc11 pm11 cd11 ct11 oc12 kV12 dc12 pm12 cd12 ct12 oc13 kV13 dc13 pm13 cd13 ct13 oc14 kV14 dc14 pm14 cd14 ct14 oc15 kV15 dc15 pm15 cd15 ct15 oc16 kV16 dc16 pm16 cd16 ct16 oc17 kV17 dc17 pm17 cd17 ct17 oc18 kV18 dc18 pm18 cd18 ct18 oc19 kV19 dc19 pm19 cd19 ct19 oc20 kV20 dc20 pm20 cd20 ct20 oc21 kV21 dc21 pm21 cd21 ct21 oc22 kV22 dc22 pm22 cd22 ct22 oc23 kV23 dc23 pm23 cd23 ct23 oc24 kV24 dc24 pm24 cd24 ct24 oc25 kV25 dc25 pm25 cd25 ct25 oc26 kV26 dc26 pm26 cd26 ct26 oc27 kV27 dc27 pm27 cd27 ct27 oc28 kV28 dc28 pm28 cd28 ct28 oc29 kV29 dc29 pm29 cd29 ct29 oc30 kV30 dc30 pm30 cd30 ct30 oc31 kV31 dc31 pm31 cd31 ct31 oc32 kV32 dc32 pm32 cd32 ct32 oc33 kV33 dc33 pm33 cd33 ct33 oc34 kV34 dc34 pm34 cd34 ct34 oc35 kV35 dc35 pm35 cd35 ct35 oc36 kV36 dc36 pm36 cd36 ct36 oc37 kV37 dc37 pm37 cd37 ct37 oc38 kV38 dc38 pm38 cd38 ct38 oc39 kV39 dc39 pm39 cd39 ct39 oc40 kV40 dc40 pm40 cd40 ct40 oc41 kV41 dc41 pm41 cd41 ct41 oc42 kV42 dc42 pm42 cd42 ct42 oc43 kV43 dc43 pm43 cd43 ct43 oc44 kV44 dc44 pm44 cd44 ct44 oc45 kV45 dc45 pm45 cd45 ct45 oc46 kV46 dc46 pm46 cd46 ct46 oc47 kV47 dc47 pm47 cd47 ct47 oc48 kV48 dc48 pm48 cd48 ct48 oc49 kV49 dc49 pm49 cd49 ct49 oc50 kV50 dc50 pm50 cd50 ct50 oc51 kV51 dc51 pm51 cd51 ct51 oc52 kV52 dc52 pm52 cd52 ct52 oc53 kV53 dc53 pm53 cd53 ct53 oc54 kV54 dc54 pm54 cd54 ct54 oc55 kV55 dc55 pm55 cd55 ct55 oc56 kV56 dc56 pm56 cd56 ct56 oc57 kV57 dc57 pm57 cd57 ct57 oc58 kV58 dc58 pm58 cd58 ct58 oc59 kV59 dc59 pm59 cd59 ct59 oc60 kV60 dc60 pm60 cd60 ct60 oc61 kV61 dc61 pm61 cd61 ct61 oc62 kV62 dc62 pm62 cd62 ct62 oc63 kV63 dc63 pm63 cd63 ct63 : Value}
    (a1 : PySem.W.nsIn K mainGlobals "is_whole" = some (some (.ref f1))) (l1 : K.lookup f1 = some ⟨oc1, od1, .func (PySem.W.fnOf "is_whole" "is_whole" (defArgs s_is_whole) (defBody s_is_whole) (defScope s_is_whole) .none kV1 dc1 pm1 an1 cd1 ct1), sl1⟩) (c1 : PySem.W.codeIn K cd1 "is_whole" = true) (k1 : PySem.W.keepIn K (.ref f1) = true)
    (a2 : PySem.W.nsIn K mainGlobals "is_within" = some (some (.ref f2))) (l2 : K.lookup f2 = some ⟨oc2, od2, .func (PySem.W.fnOf "is_within" "is_within" (defArgs s_is_within) (defBody s_is_within) (defScope s_is_within) .none kV2 dc2 pm2 an2 cd2 ct2), sl2⟩) (c2 : PySem.W.codeIn K cd2 "is_within" = true) (k2 : PySem.W.keepIn K (.ref f2) = true)
    (a3 : PySem.W.nsIn K mainGlobals "is_row_of" = some (some (.ref f3))) (l3 : K.lookup f3 = some ⟨oc3, od3, .func (PySem.W.fnOf "is_row_of" "is_row_of" (defArgs s_is_row_of) (defBody s_is_row_of) (defScope s_is_row_of) .none kV3 dc3 pm3 an3 cd3 ct3), sl3⟩) (c3 : PySem.W.codeIn K cd3 "is_row_of" = true) (k3 : PySem.W.keepIn K (.ref f3) = true)
    (a4 : PySem.W.nsIn K mainGlobals "want_whole" = some (some (.ref f4))) (l4 : K.lookup f4 = some ⟨oc4, od4, .func (PySem.W.fnOf "want_whole" "want_whole" (defArgs s_want_whole) (defBody s_want_whole) (defScope s_want_whole) .none kV4 dc4 pm4 an4 cd4 ct4), sl4⟩) (c4 : PySem.W.codeIn K cd4 "want_whole" = true) (k4 : PySem.W.keepIn K (.ref f4) = true)
    (a5 : PySem.W.nsIn K mainGlobals "want_within" = some (some (.ref f5))) (l5 : K.lookup f5 = some ⟨oc5, od5, .func (PySem.W.fnOf "want_within" "want_within" (defArgs s_want_within) (defBody s_want_within) (defScope s_want_within) .none kV5 dc5 pm5 an5 cd5 ct5), sl5⟩) (c5 : PySem.W.codeIn K cd5 "want_within" = true) (k5 : PySem.W.keepIn K (.ref f5) = true)
    (a6 : PySem.W.nsIn K mainGlobals "want_from" = some (some (.ref f6))) (l6 : K.lookup f6 = some ⟨oc6, od6, .func (PySem.W.fnOf "want_from" "want_from" (defArgs s_want_from) (defBody s_want_from) (defScope s_want_from) .none kV6 dc6 pm6 an6 cd6 ct6), sl6⟩) (c6 : PySem.W.codeIn K cd6 "want_from" = true) (k6 : PySem.W.keepIn K (.ref f6) = true)
    (a7 : PySem.W.nsIn K mainGlobals "is_by_table" = some (some (.ref f7))) (l7 : K.lookup f7 = some ⟨oc7, od7, .func (PySem.W.fnOf "is_by_table" "is_by_table" (defArgs s_is_by_table) (defBody s_is_by_table) (defScope s_is_by_table) .none kV7 dc7 pm7 an7 cd7 ct7), sl7⟩) (c7 : PySem.W.codeIn K cd7 "is_by_table" = true) (k7 : PySem.W.keepIn K (.ref f7) = true)
    (a8 : PySem.W.nsIn K mainGlobals "are_by_table" = some (some (.ref f8))) (l8 : K.lookup f8 = some ⟨oc8, od8, .func (PySem.W.fnOf "are_by_table" "are_by_table" (defArgs s_are_by_table) (defBody s_are_by_table) (defScope s_are_by_table) .none kV8 dc8 pm8 an8 cd8 ct8), sl8⟩) (c8 : PySem.W.codeIn K cd8 "are_by_table" = true) (k8 : PySem.W.keepIn K (.ref f8) = true)
    (a9 : PySem.W.nsIn K mainGlobals "one_then" = some (some (.ref f9))) (l9 : K.lookup f9 = some ⟨oc9, od9, .func (PySem.W.fnOf "one_then" "one_then" (defArgs s_one_then) (defBody s_one_then) (defScope s_one_then) .none kV9 dc9 pm9 an9 cd9 ct9), sl9⟩) (c9 : PySem.W.codeIn K cd9 "one_then" = true) (k9 : PySem.W.keepIn K (.ref f9) = true)
    (a10 : PySem.W.nsIn K mainGlobals "grown" = some (some (.ref f10))) (l10 : K.lookup f10 = some ⟨oc10, od10, .func (PySem.W.fnOf "grown" "grown" (defArgs s_grown) (defBody s_grown) (defScope s_grown) .none kV10 dc10 pm10 an10 cd10 ct10), sl10⟩) (c10 : PySem.W.codeIn K cd10 "grown" = true) (k10 : PySem.W.keepIn K (.ref f10) = true)
    (a11 : PySem.W.nsIn K mainGlobals "want_makers" = some (some (.ref f11))) (l11 : K.lookup f11 = some ⟨oc11, od11, .func (PySem.W.fnOf "want_makers" "want_makers" (defArgs s_want_makers) (defBody s_want_makers) (defScope s_want_makers) .none kV11 dc11 pm11 an11 cd11 ct11), sl11⟩) (c11 : PySem.W.codeIn K cd11 "want_makers" = true) (k11 : PySem.W.keepIn K (.ref f11) = true)
    (a12 : PySem.W.nsIn K mainGlobals "family" = some (some (.ref f12))) (l12 : K.lookup f12 = some ⟨oc12, od12, .func (PySem.W.fnOf "family" "family" (defArgs s_family) (defBody s_family) (defScope s_family) .none kV12 dc12 pm12 an12 cd12 ct12), sl12⟩) (c12 : PySem.W.codeIn K cd12 "family" = true) (k12 : PySem.W.keepIn K (.ref f12) = true)
    (a13 : PySem.W.nsIn K mainGlobals "words" = some (some (.ref f13))) (l13 : K.lookup f13 = some ⟨oc13, od13, .func (PySem.W.fnOf "words" "words" (defArgs s_words) (defBody s_words) (defScope s_words) .none kV13 dc13 pm13 an13 cd13 ct13), sl13⟩) (c13 : PySem.W.codeIn K cd13 "words" = true) (k13 : PySem.W.keepIn K (.ref f13) = true)
    (a14 : PySem.W.nsIn K mainGlobals "is_end" = some (some (.ref f14))) (l14 : K.lookup f14 = some ⟨oc14, od14, .func (PySem.W.fnOf "is_end" "is_end" (defArgs s_is_end) (defBody s_is_end) (defScope s_is_end) .none kV14 dc14 pm14 an14 cd14 ct14), sl14⟩) (c14 : PySem.W.codeIn K cd14 "is_end" = true) (k14 : PySem.W.keepIn K (.ref f14) = true)
    (a15 : PySem.W.nsIn K mainGlobals "is_deed" = some (some (.ref f15))) (l15 : K.lookup f15 = some ⟨oc15, od15, .func (PySem.W.fnOf "is_deed" "is_deed" (defArgs s_is_deed) (defBody s_is_deed) (defScope s_is_deed) .none kV15 dc15 pm15 an15 cd15 ct15), sl15⟩) (c15 : PySem.W.codeIn K cd15 "is_deed" = true) (k15 : PySem.W.keepIn K (.ref f15) = true)
    (a16 : PySem.W.nsIn K mainGlobals "want_deed" = some (some (.ref f16))) (l16 : K.lookup f16 = some ⟨oc16, od16, .func (PySem.W.fnOf "want_deed" "want_deed" (defArgs s_want_deed) (defBody s_want_deed) (defScope s_want_deed) .none kV16 dc16 pm16 an16 cd16 ct16), sl16⟩) (c16 : PySem.W.codeIn K cd16 "want_deed" = true) (k16 : PySem.W.keepIn K (.ref f16) = true)
    (a17 : PySem.W.nsIn K mainGlobals "put_through" = some (some (.ref f17))) (l17 : K.lookup f17 = some ⟨oc17, od17, .func (PySem.W.fnOf "put_through" "put_through" (defArgs s_put_through) (defBody s_put_through) (defScope s_put_through) .none kV17 dc17 pm17 an17 cd17 ct17), sl17⟩) (c17 : PySem.W.codeIn K cd17 "put_through" = true) (k17 : PySem.W.keepIn K (.ref f17) = true)
    (a18 : PySem.W.nsIn K mainGlobals "done" = some (some (.ref f18))) (l18 : K.lookup f18 = some ⟨oc18, od18, .func (PySem.W.fnOf "done" "done" (defArgs s_done) (defBody s_done) (defScope s_done) .none kV18 dc18 pm18 an18 cd18 ct18), sl18⟩) (c18 : PySem.W.codeIn K cd18 "done" = true) (k18 : PySem.W.keepIn K (.ref f18) = true)
    (a19 : PySem.W.nsIn K mainGlobals "whole_deed" = some (some (.ref f19))) (l19 : K.lookup f19 = some ⟨oc19, od19, .func (PySem.W.fnOf "whole_deed" "whole_deed" (defArgs s_whole_deed) (defBody s_whole_deed) (defScope s_whole_deed) .none kV19 dc19 pm19 an19 cd19 ct19), sl19⟩) (c19 : PySem.W.codeIn K cd19 "whole_deed" = true) (k19 : PySem.W.keepIn K (.ref f19) = true)
    (a20 : PySem.W.nsIn K mainGlobals "one_behind" = some (some (.ref f20))) (l20 : K.lookup f20 = some ⟨oc20, od20, .func (PySem.W.fnOf "one_behind" "one_behind" (defArgs s_one_behind) (defBody s_one_behind) (defScope s_one_behind) .none kV20 dc20 pm20 an20 cd20 ct20), sl20⟩) (c20 : PySem.W.codeIn K cd20 "one_behind" = true) (k20 : PySem.W.keepIn K (.ref f20) = true)
    (a21 : PySem.W.nsIn K mainGlobals "again" = some (some (.ref f21))) (l21 : K.lookup f21 = some ⟨oc21, od21, .func (PySem.W.fnOf "again" "again" (defArgs s_again) (defBody s_again) (defScope s_again) .none kV21 dc21 pm21 an21 cd21 ct21), sl21⟩) (c21 : PySem.W.codeIn K cd21 "again" = true) (k21 : PySem.W.keepIn K (.ref f21) = true)
    (a22 : PySem.W.nsIn K mainGlobals "is_board" = some (some (.ref f22))) (l22 : K.lookup f22 = some ⟨oc22, od22, .func (PySem.W.fnOf "is_board" "is_board" (defArgs s_is_board) (defBody s_is_board) (defScope s_is_board) .none kV22 dc22 pm22 an22 cd22 ct22), sl22⟩) (c22 : PySem.W.codeIn K cd22 "is_board" = true) (k22 : PySem.W.keepIn K (.ref f22) = true)
    (a23 : PySem.W.nsIn K mainGlobals "want_board" = some (some (.ref f23))) (l23 : K.lookup f23 = some ⟨oc23, od23, .func (PySem.W.fnOf "want_board" "want_board" (defArgs s_want_board) (defBody s_want_board) (defScope s_want_board) .none kV23 dc23 pm23 an23 cd23 ct23), sl23⟩) (c23 : PySem.W.codeIn K cd23 "want_board" = true) (k23 : PySem.W.keepIn K (.ref f23) = true)
    (a24 : PySem.W.nsIn K mainGlobals "is_ask" = some (some (.ref f24))) (l24 : K.lookup f24 = some ⟨oc24, od24, .func (PySem.W.fnOf "is_ask" "is_ask" (defArgs s_is_ask) (defBody s_is_ask) (defScope s_is_ask) .none kV24 dc24 pm24 an24 cd24 ct24), sl24⟩) (c24 : PySem.W.codeIn K cd24 "is_ask" = true) (k24 : PySem.W.keepIn K (.ref f24) = true)
    (a25 : PySem.W.nsIn K mainGlobals "are_asks" = some (some (.ref f25))) (l25 : K.lookup f25 = some ⟨oc25, od25, .func (PySem.W.fnOf "are_asks" "are_asks" (defArgs s_are_asks) (defBody s_are_asks) (defScope s_are_asks) .none kV25 dc25 pm25 an25 cd25 ct25), sl25⟩) (c25 : PySem.W.codeIn K cd25 "are_asks" = true) (k25 : PySem.W.keepIn K (.ref f25) = true)
    (a26 : PySem.W.nsIn K mainGlobals "want_asks" = some (some (.ref f26))) (l26 : K.lookup f26 = some ⟨oc26, od26, .func (PySem.W.fnOf "want_asks" "want_asks" (defArgs s_want_asks) (defBody s_want_asks) (defScope s_want_asks) .none kV26 dc26 pm26 an26 cd26 ct26), sl26⟩) (c26 : PySem.W.codeIn K cd26 "want_asks" = true) (k26 : PySem.W.keepIn K (.ref f26) = true)
    (a27 : PySem.W.nsIn K mainGlobals "played" = some (some (.ref f27))) (l27 : K.lookup f27 = some ⟨oc27, od27, .func (PySem.W.fnOf "played" "played" (defArgs s_played) (defBody s_played) (defScope s_played) .none kV27 dc27 pm27 an27 cd27 ct27), sl27⟩) (c27 : PySem.W.codeIn K cd27 "played" = true) (k27 : PySem.W.keepIn K (.ref f27) = true)
    (a28 : PySem.W.nsIn K mainGlobals "all_of" = some (some (.ref f28))) (l28 : K.lookup f28 = some ⟨oc28, od28, .func (PySem.W.fnOf "all_of" "all_of" (defArgs s_all_of) (defBody s_all_of) (defScope s_all_of) .none kV28 dc28 pm28 an28 cd28 ct28), sl28⟩) (c28 : PySem.W.codeIn K cd28 "all_of" = true) (k28 : PySem.W.keepIn K (.ref f28) = true)
    (a29 : PySem.W.nsIn K mainGlobals "want_many" = some (some (.ref f29))) (l29 : K.lookup f29 = some ⟨oc29, od29, .func (PySem.W.fnOf "want_many" "want_many" (defArgs s_want_many) (defBody s_want_many) (defScope s_want_many) .none kV29 dc29 pm29 an29 cd29 ct29), sl29⟩) (c29 : PySem.W.codeIn K cd29 "want_many" = true) (k29 : PySem.W.keepIn K (.ref f29) = true)
    (a30 : PySem.W.nsIn K mainGlobals "is_tree" = some (some (.ref f30))) (l30 : K.lookup f30 = some ⟨oc30, od30, .func (PySem.W.fnOf "is_tree" "is_tree" (defArgs s_is_tree) (defBody s_is_tree) (defScope s_is_tree) .none kV30 dc30 pm30 an30 cd30 ct30), sl30⟩) (c30 : PySem.W.codeIn K cd30 "is_tree" = true) (k30 : PySem.W.keepIn K (.ref f30) = true)
    (a31 : PySem.W.nsIn K mainGlobals "want_deeds" = some (some (.ref f31))) (l31 : K.lookup f31 = some ⟨oc31, od31, .func (PySem.W.fnOf "want_deeds" "want_deeds" (defArgs s_want_deeds) (defBody s_want_deeds) (defScope s_want_deeds) .none kV31 dc31 pm31 an31 cd31 ct31), sl31⟩) (c31 : PySem.W.codeIn K cd31 "want_deeds" = true) (k31 : PySem.W.keepIn K (.ref f31) = true)
    (a32 : PySem.W.nsIn K mainGlobals "want_tree" = some (some (.ref f32))) (l32 : K.lookup f32 = some ⟨oc32, od32, .func (PySem.W.fnOf "want_tree" "want_tree" (defArgs s_want_tree) (defBody s_want_tree) (defScope s_want_tree) .none kV32 dc32 pm32 an32 cd32 ct32), sl32⟩) (c32 : PySem.W.codeIn K cd32 "want_tree" = true) (k32 : PySem.W.keepIn K (.ref f32) = true)
    (a33 : PySem.W.nsIn K mainGlobals "folded_of" = some (some (.ref f33))) (l33 : K.lookup f33 = some ⟨oc33, od33, .func (PySem.W.fnOf "folded_of" "folded_of" (defArgs s_folded_of) (defBody s_folded_of) (defScope s_folded_of) .none kV33 dc33 pm33 an33 cd33 ct33), sl33⟩) (c33 : PySem.W.codeIn K cd33 "folded_of" = true) (k33 : PySem.W.keepIn K (.ref f33) = true)
    (a34 : PySem.W.nsIn K mainGlobals "folded" = some (some (.ref f34))) (l34 : K.lookup f34 = some ⟨oc34, od34, .func (PySem.W.fnOf "folded" "folded" (defArgs s_folded) (defBody s_folded) (defScope s_folded) .none kV34 dc34 pm34 an34 cd34 ct34), sl34⟩) (c34 : PySem.W.codeIn K cd34 "folded" = true) (k34 : PySem.W.keepIn K (.ref f34) = true)
    (a35 : PySem.W.nsIn K mainGlobals "shared_of" = some (some (.ref f35))) (l35 : K.lookup f35 = some ⟨oc35, od35, .func (PySem.W.fnOf "shared_of" "shared_of" (defArgs s_shared_of) (defBody s_shared_of) (defScope s_shared_of) .none kV35 dc35 pm35 an35 cd35 ct35), sl35⟩) (c35 : PySem.W.codeIn K cd35 "shared_of" = true) (k35 : PySem.W.keepIn K (.ref f35) = true)
    (a36 : PySem.W.nsIn K mainGlobals "shared_out" = some (some (.ref f36))) (l36 : K.lookup f36 = some ⟨oc36, od36, .func (PySem.W.fnOf "shared_out" "shared_out" (defArgs s_shared_out) (defBody s_shared_out) (defScope s_shared_out) .none kV36 dc36 pm36 an36 cd36 ct36), sl36⟩) (c36 : PySem.W.codeIn K cd36 "shared_out" = true) (k36 : PySem.W.keepIn K (.ref f36) = true)
    (a37 : PySem.W.nsIn K mainGlobals "chained" = some (some (.ref f37))) (l37 : K.lookup f37 = some ⟨oc37, od37, .func (PySem.W.fnOf "chained" "chained" (defArgs s_chained) (defBody s_chained) (defScope s_chained) .none kV37 dc37 pm37 an37 cd37 ct37), sl37⟩) (c37 : PySem.W.codeIn K cd37 "chained" = true) (k37 : PySem.W.keepIn K (.ref f37) = true)
    (a38 : PySem.W.nsIn K mainGlobals "are_numbers" = some (some (.ref f38))) (l38 : K.lookup f38 = some ⟨oc38, od38, .func (PySem.W.fnOf "are_numbers" "are_numbers" (defArgs s_are_numbers) (defBody s_are_numbers) (defScope s_are_numbers) .none kV38 dc38 pm38 an38 cd38 ct38), sl38⟩) (c38 : PySem.W.codeIn K cd38 "are_numbers" = true) (k38 : PySem.W.keepIn K (.ref f38) = true)
    (a39 : PySem.W.nsIn K mainGlobals "is_table" = some (some (.ref f39))) (l39 : K.lookup f39 = some ⟨oc39, od39, .func (PySem.W.fnOf "is_table" "is_table" (defArgs s_is_table) (defBody s_is_table) (defScope s_is_table) .none kV39 dc39 pm39 an39 cd39 ct39), sl39⟩) (c39 : PySem.W.codeIn K cd39 "is_table" = true) (k39 : PySem.W.keepIn K (.ref f39) = true)
    (a40 : PySem.W.nsIn K mainGlobals "want_table" = some (some (.ref f40))) (l40 : K.lookup f40 = some ⟨oc40, od40, .func (PySem.W.fnOf "want_table" "want_table" (defArgs s_want_table) (defBody s_want_table) (defScope s_want_table) .none kV40 dc40 pm40 an40 cd40 ct40), sl40⟩) (c40 : PySem.W.codeIn K cd40 "want_table" = true) (k40 : PySem.W.keepIn K (.ref f40) = true)
    (a41 : PySem.W.nsIn K mainGlobals "want_by_table" = some (some (.ref f41))) (l41 : K.lookup f41 = some ⟨oc41, od41, .func (PySem.W.fnOf "want_by_table" "want_by_table" (defArgs s_want_by_table) (defBody s_want_by_table) (defScope s_want_by_table) .none kV41 dc41 pm41 an41 cd41 ct41), sl41⟩) (c41 : PySem.W.codeIn K cd41 "want_by_table" = true) (k41 : PySem.W.keepIn K (.ref f41) = true)
    (a42 : PySem.W.nsIn K mainGlobals "want_numbers" = some (some (.ref f42))) (l42 : K.lookup f42 = some ⟨oc42, od42, .func (PySem.W.fnOf "want_numbers" "want_numbers" (defArgs s_want_numbers) (defBody s_want_numbers) (defScope s_want_numbers) .none kV42 dc42 pm42 an42 cd42 ct42), sl42⟩) (c42 : PySem.W.codeIn K cd42 "want_numbers" = true) (k42 : PySem.W.keepIn K (.ref f42) = true)
    (a43 : PySem.W.nsIn K mainGlobals "want_grouped" = some (some (.ref f43))) (l43 : K.lookup f43 = some ⟨oc43, od43, .func (PySem.W.fnOf "want_grouped" "want_grouped" (defArgs s_want_grouped) (defBody s_want_grouped) (defScope s_want_grouped) .none kV43 dc43 pm43 an43 cd43 ct43), sl43⟩) (c43 : PySem.W.codeIn K cd43 "want_grouped" = true) (k43 : PySem.W.keepIn K (.ref f43) = true)
    (a44 : PySem.W.nsIn K mainGlobals "own_table" = some (some (.ref f44))) (l44 : K.lookup f44 = some ⟨oc44, od44, .func (PySem.W.fnOf "own_table" "own_table" (defArgs s_own_table) (defBody s_own_table) (defScope s_own_table) .none kV44 dc44 pm44 an44 cd44 ct44), sl44⟩) (c44 : PySem.W.codeIn K cd44 "own_table" = true) (k44 : PySem.W.keepIn K (.ref f44) = true)
    (a45 : PySem.W.nsIn K mainGlobals "fold" = some (some (.ref f45))) (l45 : K.lookup f45 = some ⟨oc45, od45, .func (PySem.W.fnOf "fold" "fold" (defArgs s_fold) (defBody s_fold) (defScope s_fold) .none kV45 dc45 pm45 an45 cd45 ct45), sl45⟩) (c45 : PySem.W.codeIn K cd45 "fold" = true) (k45 : PySem.W.keepIn K (.ref f45) = true)
    (a46 : PySem.W.nsIn K mainGlobals "share" = some (some (.ref f46))) (l46 : K.lookup f46 = some ⟨oc46, od46, .func (PySem.W.fnOf "share" "share" (defArgs s_share) (defBody s_share) (defScope s_share) .none kV46 dc46 pm46 an46 cd46 ct46), sl46⟩) (c46 : PySem.W.codeIn K cd46 "share" = true) (k46 : PySem.W.keepIn K (.ref f46) = true)
    (a47 : PySem.W.nsIn K mainGlobals "folded_by" = some (some (.ref f47))) (l47 : K.lookup f47 = some ⟨oc47, od47, .func (PySem.W.fnOf "folded_by" "folded_by" (defArgs s_folded_by) (defBody s_folded_by) (defScope s_folded_by) .none kV47 dc47 pm47 an47 cd47 ct47), sl47⟩) (c47 : PySem.W.codeIn K cd47 "folded_by" = true) (k47 : PySem.W.keepIn K (.ref f47) = true)
    (a48 : PySem.W.nsIn K mainGlobals "shared_by" = some (some (.ref f48))) (l48 : K.lookup f48 = some ⟨oc48, od48, .func (PySem.W.fnOf "shared_by" "shared_by" (defArgs s_shared_by) (defBody s_shared_by) (defScope s_shared_by) .none kV48 dc48 pm48 an48 cd48 ct48), sl48⟩) (c48 : PySem.W.codeIn K cd48 "shared_by" = true) (k48 : PySem.W.keepIn K (.ref f48) = true)
    (a49 : PySem.W.nsIn K mainGlobals "stays" = some (some (.ref f49))) (l49 : K.lookup f49 = some ⟨oc49, od49, .func (PySem.W.fnOf "stays" "stays" (defArgs s_stays) (defBody s_stays) (defScope s_stays) .none kV49 dc49 pm49 an49 cd49 ct49), sl49⟩) (c49 : PySem.W.codeIn K cd49 "stays" = true) (k49 : PySem.W.keepIn K (.ref f49) = true)
    (a50 : PySem.W.nsIn K mainGlobals "is_beyond" = some (some (.ref f50))) (l50 : K.lookup f50 = some ⟨oc50, od50, .func (PySem.W.fnOf "is_beyond" "is_beyond" (defArgs s_is_beyond) (defBody s_is_beyond) (defScope s_is_beyond) .none kV50 dc50 pm50 an50 cd50 ct50), sl50⟩) (c50 : PySem.W.codeIn K cd50 "is_beyond" = true) (k50 : PySem.W.keepIn K (.ref f50) = true)
    (a51 : PySem.W.nsIn K mainGlobals "leads" = some (some (.ref f51))) (l51 : K.lookup f51 = some ⟨oc51, od51, .func (PySem.W.fnOf "leads" "leads" (defArgs s_leads) (defBody s_leads) (defScope s_leads) .none kV51 dc51 pm51 an51 cd51 ct51), sl51⟩) (c51 : PySem.W.codeIn K cd51 "leads" = true) (k51 : PySem.W.keepIn K (.ref f51) = true)
    (a52 : PySem.W.nsIn K mainGlobals "_law_store" = some (some (.ref f52))) (l52 : K.lookup f52 = some ⟨oc52, od52, .func (PySem.W.fnOf "_law_store" "_law_store" (defArgs s__law_store) (defBody s__law_store) (defScope s__law_store) .none kV52 dc52 pm52 an52 cd52 ct52), sl52⟩) (c52 : PySem.W.codeIn K cd52 "_law_store" = true) (k52 : PySem.W.keepIn K (.ref f52) = true)
    (a53 : PySem.W.nsIn K mainGlobals "_law_draw" = some (some (.ref f53))) (l53 : K.lookup f53 = some ⟨oc53, od53, .func (PySem.W.fnOf "_law_draw" "_law_draw" (defArgs s__law_draw) (defBody s__law_draw) (defScope s__law_draw) .none kV53 dc53 pm53 an53 cd53 ct53), sl53⟩) (c53 : PySem.W.codeIn K cd53 "_law_draw" = true) (k53 : PySem.W.keepIn K (.ref f53) = true)
    (a54 : PySem.W.nsIn K mainGlobals "_law_tree" = some (some (.ref f54))) (l54 : K.lookup f54 = some ⟨oc54, od54, .func (PySem.W.fnOf "_law_tree" "_law_tree" (defArgs s__law_tree) (defBody s__law_tree) (defScope s__law_tree) .none kV54 dc54 pm54 an54 cd54 ct54), sl54⟩) (c54 : PySem.W.codeIn K cd54 "_law_tree" = true) (k54 : PySem.W.keepIn K (.ref f54) = true)
    (a55 : PySem.W.nsIn K mainGlobals "_law_drawn" = some (some (.ref f55))) (l55 : K.lookup f55 = some ⟨oc55, od55, .func (PySem.W.fnOf "_law_drawn" "_law_drawn" (defArgs s__law_drawn) (defBody s__law_drawn) (defScope s__law_drawn) .none kV55 dc55 pm55 an55 cd55 ct55), sl55⟩) (c55 : PySem.W.codeIn K cd55 "_law_drawn" = true) (k55 : PySem.W.keepIn K (.ref f55) = true)
    (a56 : PySem.W.nsIn K mainGlobals "_law_by_table" = some (some (.ref f56))) (l56 : K.lookup f56 = some ⟨oc56, od56, .func (PySem.W.fnOf "_law_by_table" "_law_by_table" (defArgs s__law_by_table) (defBody s__law_by_table) (defScope s__law_by_table) .none kV56 dc56 pm56 an56 cd56 ct56), sl56⟩) (c56 : PySem.W.codeIn K cd56 "_law_by_table" = true) (k56 : PySem.W.keepIn K (.ref f56) = true)
    (a57 : PySem.W.nsIn K mainGlobals "_law_made" = some (some (.ref f57))) (l57 : K.lookup f57 = some ⟨oc57, od57, .func (PySem.W.fnOf "_law_made" "_law_made" (defArgs s__law_made) (defBody s__law_made) (defScope s__law_made) .none kV57 dc57 pm57 an57 cd57 ct57), sl57⟩) (c57 : PySem.W.codeIn K cd57 "_law_made" = true) (k57 : PySem.W.keepIn K (.ref f57) = true)
    (a58 : PySem.W.nsIn K mainGlobals "_law_power" = some (some (.ref f58))) (l58 : K.lookup f58 = some ⟨oc58, od58, .func (PySem.W.fnOf "_law_power" "_law_power" (defArgs s__law_power) (defBody s__law_power) (defScope s__law_power) .none kV58 dc58 pm58 an58 cd58 ct58), sl58⟩) (c58 : PySem.W.codeIn K cd58 "_law_power" = true) (k58 : PySem.W.keepIn K (.ref f58) = true)
    (a59 : PySem.W.nsIn K mainGlobals "_law_within" = some (some (.ref f59))) (l59 : K.lookup f59 = some ⟨oc59, od59, .func (PySem.W.fnOf "_law_within" "_law_within" (defArgs s__law_within) (defBody s__law_within) (defScope s__law_within) .none kV59 dc59 pm59 an59 cd59 ct59), sl59⟩) (c59 : PySem.W.codeIn K cd59 "_law_within" = true) (k59 : PySem.W.keepIn K (.ref f59) = true)
    (a60 : PySem.W.nsIn K mainGlobals "_law_keeps" = some (some (.ref f60))) (l60 : K.lookup f60 = some ⟨oc60, od60, .func (PySem.W.fnOf "_law_keeps" "_law_keeps" (defArgs s__law_keeps) (defBody s__law_keeps) (defScope s__law_keeps) .none kV60 dc60 pm60 an60 cd60 ct60), sl60⟩) (c60 : PySem.W.codeIn K cd60 "_law_keeps" = true) (k60 : PySem.W.keepIn K (.ref f60) = true)
    (a61 : PySem.W.nsIn K mainGlobals "_law_asked" = some (some (.ref f61))) (l61 : K.lookup f61 = some ⟨oc61, od61, .func (PySem.W.fnOf "_law_asked" "_law_asked" (defArgs s__law_asked) (defBody s__law_asked) (defScope s__law_asked) .none kV61 dc61 pm61 an61 cd61 ct61), sl61⟩) (c61 : PySem.W.codeIn K cd61 "_law_asked" = true) (k61 : PySem.W.keepIn K (.ref f61) = true)
    (a62 : PySem.W.nsIn K mainGlobals "_law_right" = some (some (.ref f62))) (l62 : K.lookup f62 = some ⟨oc62, od62, .func (PySem.W.fnOf "_law_right" "_law_right" (defArgs s__law_right) (defBody s__law_right) (defScope s__law_right) .none kV62 dc62 pm62 an62 cd62 ct62), sl62⟩) (c62 : PySem.W.codeIn K cd62 "_law_right" = true) (k62 : PySem.W.keepIn K (.ref f62) = true)
    (a63 : PySem.W.nsIn K mainGlobals "law" = some (some (.ref f63))) (l63 : K.lookup f63 = some ⟨oc63, od63, .func (PySem.W.fnOf "law" "law" (defArgs s_law) (defBody s_law) (defScope s_law) .none kV63 dc63 pm63 an63 cd63 ct63), sl63⟩) (c63 : PySem.W.codeIn K cd63 "law" = true) (k63 : PySem.W.keepIn K (.ref f63) = true)
    (z0 : PySem.W.nsIn K mainGlobals "abs" = some none)
    (z1 : PySem.W.nsIn K mainGlobals "all" = some none)
    (z2 : PySem.W.nsIn K mainGlobals "bool" = some none)
    (z3 : PySem.W.nsIn K mainGlobals "dict" = some none)
    (z4 : PySem.W.nsIn K mainGlobals "enumerate" = some none)
    (z5 : PySem.W.nsIn K mainGlobals "int" = some none)
    (z6 : PySem.W.nsIn K mainGlobals "isinstance" = some none)
    (z7 : PySem.W.nsIn K mainGlobals "len" = some none)
    (z8 : PySem.W.nsIn K mainGlobals "list" = some none)
    (z9 : PySem.W.nsIn K mainGlobals "max" = some none)
    (z10 : PySem.W.nsIn K mainGlobals "min" = some none)
    (z11 : PySem.W.nsIn K mainGlobals "range" = some none)
    (z12 : PySem.W.nsIn K mainGlobals "tuple" = some none)
    (z13 : PySem.W.nsIn K mainGlobals "zip" = some none)
    {tc0 : Tok} (cst0 : PySem.W.nsIn K mainGlobals "MOST_STATES" = some (some (.int (5) tc0)))
    {tc1 : Tok} (cst1 : PySem.W.nsIn K mainGlobals "MOST_MAKERS" = some (some (.int (4) tc1)))
    {tc2 : Tok} (cst2 : PySem.W.nsIn K mainGlobals "MOST_FAMILY" = some (some (.int (60) tc2)))
    {tc3_0 : Tok} {ga3 : Addr} {gd3 : Option Addr} {gn3 : Nat} {gs3 : Array (Option Value)} (cst3 : PySem.W.nsIn K mainGlobals "LOOK" = some (some (.ref ga3))) (cstl3 : K.lookup ga3 = some ⟨.type "tuple", gd3, .seq #[.int 0 tc3_0, .none, .none] gn3, gs3⟩)
    {tc4 : Tok} (cst4 : PySem.W.nsIn K mainGlobals "MOST_BOXES" = some (some (.int (16) tc4)))
    {tc5 : Tok} (cst5 : PySem.W.nsIn K mainGlobals "HANDS" = some (some (.int (16) tc5)))
    {tc6 : Tok} (cst6 : PySem.W.nsIn K mainGlobals "MOST_DEEDS" = some (some (.int (40) tc6)))
    {tc7 : Tok} (cst7 : PySem.W.nsIn K mainGlobals "MOST_NUMBERS" = some (some (.int (40) tc7)))
    : AllD K mg := by
  exact ⟨Df.of l1 c1 k1 (PySem.W.mg_of X G a1) (fun _ _ _ _ _ _ us hl => match us, hl with | [_], _ => rfl), Df.of l2 c2 k2 (PySem.W.mg_of X G a2) (fun _ _ _ _ _ _ us hl => match us, hl with | [_, _, _], _ => rfl), Df.of l3 c3 k3 (PySem.W.mg_of X G a3) (fun _ _ _ _ _ _ us hl => match us, hl with | [_, _], _ => rfl), Df.of l4 c4 k4 (PySem.W.mg_of X G a4) (fun _ _ _ _ _ _ us hl => match us, hl with | [_], _ => rfl), Df.of l5 c5 k5 (PySem.W.mg_of X G a5) (fun _ _ _ _ _ _ us hl => match us, hl with | [_, _, _], _ => rfl), Df.of l6 c6 k6 (PySem.W.mg_of X G a6) (fun _ _ _ _ _ _ us hl => match us, hl with | [_, _], _ => rfl), Df.of l7 c7 k7 (PySem.W.mg_of X G a7) (fun _ _ _ _ _ _ us hl => match us, hl with | [_, _], _ => rfl), Df.of l8 c8 k8 (PySem.W.mg_of X G a8) (fun _ _ _ _ _ _ us hl => match us, hl with | [_, _], _ => rfl), Df.of l9 c9 k9 (PySem.W.mg_of X G a9) (fun _ _ _ _ _ _ us hl => match us, hl with | [_, _], _ => rfl), Df.of l10 c10 k10 (PySem.W.mg_of X G a10) (fun _ _ _ _ _ _ us hl => match us, hl with | [_], _ => rfl), Df.of l11 c11 k11 (PySem.W.mg_of X G a11) (fun _ _ _ _ _ _ us hl => match us, hl with | [_], _ => rfl), Df.of l12 c12 k12 (PySem.W.mg_of X G a12) (fun _ _ _ _ _ _ us hl => match us, hl with | [_], _ => rfl), Df.of l13 c13 k13 (PySem.W.mg_of X G a13) (fun _ _ _ _ _ _ us hl => match us, hl with | [_], _ => rfl), Df.of l14 c14 k14 (PySem.W.mg_of X G a14) (fun _ _ _ _ _ _ us hl => match us, hl with | [_], _ => rfl), Df.of l15 c15 k15 (PySem.W.mg_of X G a15) (fun _ _ _ _ _ _ us hl => match us, hl with | [_], _ => rfl), Df.of l16 c16 k16 (PySem.W.mg_of X G a16) (fun _ _ _ _ _ _ us hl => match us, hl with | [_], _ => rfl), Df.of l17 c17 k17 (PySem.W.mg_of X G a17) (fun _ _ _ _ _ _ us hl => match us, hl with | [_, _], _ => rfl), Df.of l18 c18 k18 (PySem.W.mg_of X G a18) (fun _ _ _ _ _ _ us hl => match us, hl with | [_, _], _ => rfl), Df.of l19 c19 k19 (PySem.W.mg_of X G a19) (fun _ _ _ _ _ _ us hl => match us, hl with | [_, _, _], _ => rfl), Df.of l20 c20 k20 (PySem.W.mg_of X G a20) (fun _ _ _ _ _ _ us hl => match us, hl with | [_, _], _ => rfl), Df.of l21 c21 k21 (PySem.W.mg_of X G a21) (fun _ _ _ _ _ _ us hl => match us, hl with | [_, _], _ => rfl), Df.of l22 c22 k22 (PySem.W.mg_of X G a22) (fun _ _ _ _ _ _ us hl => match us, hl with | [_], _ => rfl), Df.of l23 c23 k23 (PySem.W.mg_of X G a23) (fun _ _ _ _ _ _ us hl => match us, hl with | [_], _ => rfl), Df.of l24 c24 k24 (PySem.W.mg_of X G a24) (fun _ _ _ _ _ _ us hl => match us, hl with | [_, _], _ => rfl), Df.of l25 c25 k25 (PySem.W.mg_of X G a25) (fun _ _ _ _ _ _ us hl => match us, hl with | [_, _], _ => rfl), Df.of l26 c26 k26 (PySem.W.mg_of X G a26) (fun _ _ _ _ _ _ us hl => match us, hl with | [_, _], _ => rfl), Df.of l27 c27 k27 (PySem.W.mg_of X G a27) (fun _ _ _ _ _ _ us hl => match us, hl with | [_, _], _ => rfl), Df.of l28 c28 k28 (PySem.W.mg_of X G a28) (fun _ _ _ _ _ _ us hl => match us, hl with | [_, _], _ => rfl), Df.of l29 c29 k29 (PySem.W.mg_of X G a29) (fun _ _ _ _ _ _ us hl => match us, hl with | [_], _ => rfl), Df.of l30 c30 k30 (PySem.W.mg_of X G a30) (fun _ _ _ _ _ _ us hl => match us, hl with | [_, _], _ => rfl), Df.of l31 c31 k31 (PySem.W.mg_of X G a31) (fun _ _ _ _ _ _ us hl => match us, hl with | [_], _ => rfl), Df.of l32 c32 k32 (PySem.W.mg_of X G a32) (fun _ _ _ _ _ _ us hl => match us, hl with | [_, _], _ => rfl), Df.of l33 c33 k33 (PySem.W.mg_of X G a33) (fun _ _ _ _ _ _ us hl => match us, hl with | [_, _], _ => rfl), Df.of l34 c34 k34 (PySem.W.mg_of X G a34) (fun _ _ _ _ _ _ us hl => match us, hl with | [_, _], _ => rfl), Df.of l35 c35 k35 (PySem.W.mg_of X G a35) (fun _ _ _ _ _ _ us hl => match us, hl with | [_, _, _], _ => rfl), Df.of l36 c36 k36 (PySem.W.mg_of X G a36) (fun _ _ _ _ _ _ us hl => match us, hl with | [_, _, _], _ => rfl), Df.of l37 c37 k37 (PySem.W.mg_of X G a37) (fun _ _ _ _ _ _ us hl => match us, hl with | [_], _ => rfl), Df.of l38 c38 k38 (PySem.W.mg_of X G a38) (fun _ _ _ _ _ _ us hl => match us, hl with | [_, _], _ => rfl), Df.of l39 c39 k39 (PySem.W.mg_of X G a39) (fun _ _ _ _ _ _ us hl => match us, hl with | [_], _ => rfl), Df.of l40 c40 k40 (PySem.W.mg_of X G a40) (fun _ _ _ _ _ _ us hl => match us, hl with | [_], _ => rfl), Df.of l41 c41 k41 (PySem.W.mg_of X G a41) (fun _ _ _ _ _ _ us hl => match us, hl with | [_, _], _ => rfl), Df.of l42 c42 k42 (PySem.W.mg_of X G a42) (fun _ _ _ _ _ _ us hl => match us, hl with | [_, _], _ => rfl), Df.of l43 c43 k43 (PySem.W.mg_of X G a43) (fun _ _ _ _ _ _ us hl => match us, hl with | [_, _], _ => rfl), Df.of l44 c44 k44 (PySem.W.mg_of X G a44) (fun _ _ _ _ _ _ us hl => match us, hl with | [_], _ => rfl), Df.of l45 c45 k45 (PySem.W.mg_of X G a45) (fun _ _ _ _ _ _ us hl => match us, hl with | [_, _, _], _ => rfl), Df.of l46 c46 k46 (PySem.W.mg_of X G a46) (fun _ _ _ _ _ _ us hl => match us, hl with | [_, _, _, _, _], _ => rfl), Df.of l47 c47 k47 (PySem.W.mg_of X G a47) (fun _ _ _ _ _ _ us hl => match us, hl with | [_, _, _], _ => rfl), Df.of l48 c48 k48 (PySem.W.mg_of X G a48) (fun _ _ _ _ _ _ us hl => match us, hl with | [_, _, _, _, _], _ => rfl), Df.of l49 c49 k49 (PySem.W.mg_of X G a49) (fun _ _ _ _ _ _ us hl => match us, hl with | [_], _ => rfl), Df.of l50 c50 k50 (PySem.W.mg_of X G a50) (fun _ _ _ _ _ _ us hl => match us, hl with | [_, _], _ => rfl), Df.of l51 c51 k51 (PySem.W.mg_of X G a51) (fun _ _ _ _ _ _ us hl => match us, hl with | [_, _], _ => rfl), Df.of l52 c52 k52 (PySem.W.mg_of X G a52) (fun _ _ _ _ _ _ us hl => match us, hl with | [_, _], _ => rfl), Df.of l53 c53 k53 (PySem.W.mg_of X G a53) (fun _ _ _ _ _ _ us hl => match us, hl with | [_, _], _ => rfl), Df.of l54 c54 k54 (PySem.W.mg_of X G a54) (fun _ _ _ _ _ _ us hl => match us, hl with | [_, _, _], _ => rfl), Df.of l55 c55 k55 (PySem.W.mg_of X G a55) (fun _ _ _ _ _ _ us hl => match us, hl with | [_, _], _ => rfl), Df.of l56 c56 k56 (PySem.W.mg_of X G a56) (fun _ _ _ _ _ _ us hl => match us, hl with | [_, _], _ => rfl), Df.of l57 c57 k57 (PySem.W.mg_of X G a57) (fun _ _ _ _ _ _ us hl => match us, hl with | [_, _], _ => rfl), Df.of l58 c58 k58 (PySem.W.mg_of X G a58) (fun _ _ _ _ _ _ us hl => match us, hl with | [_, _], _ => rfl), Df.of l59 c59 k59 (PySem.W.mg_of X G a59) (fun _ _ _ _ _ _ us hl => match us, hl with | [_, _], _ => rfl), Df.of l60 c60 k60 (PySem.W.mg_of X G a60) (fun _ _ _ _ _ _ us hl => match us, hl with | [_, _], _ => rfl), Df.of l61 c61 k61 (PySem.W.mg_of X G a61) (fun _ _ _ _ _ _ us hl => match us, hl with | [_, _, _, _, _], _ => rfl), Df.of l62 c62 k62 (PySem.W.mg_of X G a62) (fun _ _ _ _ _ _ us hl => match us, hl with | [_], _ => rfl), Df.of l63 c63 k63 (PySem.W.mg_of X G a63) (fun _ _ _ _ _ _ us hl => match us, hl with | [_], _ => rfl), ⟨PySem.W.mg_none_of X G z0, PySem.W.mg_none_of X G z1, PySem.W.mg_none_of X G z2, PySem.W.mg_none_of X G z3, PySem.W.mg_none_of X G z4, PySem.W.mg_none_of X G z5, PySem.W.mg_none_of X G z6, PySem.W.mg_none_of X G z7, PySem.W.mg_none_of X G z8, PySem.W.mg_none_of X G z9, PySem.W.mg_none_of X G z10, PySem.W.mg_none_of X G z11, PySem.W.mg_none_of X G z12, PySem.W.mg_none_of X G z13, ⟨_, PySem.W.mg_of X G cst0⟩, ⟨_, PySem.W.mg_of X G cst1⟩, ⟨_, PySem.W.mg_of X G cst2⟩, ⟨_, PySem.W.mg_of X G cst3, _, _, _, cstl3, rfl, rfl, by show 3 ≤ sizeLine; decide, (.cons ⟨_, rfl⟩ (.cons rfl (.cons rfl .nil)))⟩, ⟨_, PySem.W.mg_of X G cst4⟩, ⟨_, PySem.W.mg_of X G cst5⟩, ⟨_, PySem.W.mg_of X G cst6⟩, ⟨_, PySem.W.mg_of X G cst7⟩⟩⟩

theorem law_fd {P : Program} {w : World} {K : PySem.W.Frag} {mg : Str → Option Value} {fa : Addr} (A : AllD K mg) (hfa : mg "law" = some (.ref fa)) :
    ∃ fd : FuncData, (∀ (s : Shared) (v : Value), BindsTo s fd ⟨[v], []⟩ [("_law_script", v)]) ∧ ∀ base : Heap, K.In base → base.Ns mainGlobals mg → FnG P w K mg base CX0 95 fa fd ["_law_script"] (spLaw K) := by
  obtain ⟨f, fd, F, m, b⟩ := A.d_law.ex
  have e := hfa.symm.trans m
  cases e
  refine ⟨fd, fun s v => by obtain ⟨oc, od, kV, doc, pm, an, cdv, ct, osl, rfl, lk, hcd⟩ := F.ex; exact .of_eq rfl, fun base _ _ => ?_⟩
  have B := A.bl
  have D_is_whole : Dn P w K mg base 1 "is_whole" ["thing"] spIsWhole := k_is_whole B A.d_is_whole 
  have D_is_row_of : Dn P w K mg base 1 "is_row_of" ["thing", "many"] (spIsRow K) := k_is_row_of B A.d_is_row_of 
  have D_want_whole : Dn P w K mg base 2 "want_whole" ["thing"] spWantWhole := k_want_whole B A.d_want_whole D_is_whole
  have D_is_end : Dn P w K mg base 2 "is_end" ["thing"] spIsEnd := k_is_end B A.d_is_end D_is_whole
  have D_is_deed : Dn P w K mg base 3 "is_deed" ["thing"] (spIsDeed K) := k_is_deed B A.d_is_deed D_is_whole D_is_row_of D_is_end
  have D_want_deed : Dn P w K mg base 4 "want_deed" ["thing"] (spWantDeed K) := k_want_deed B A.d_want_deed D_is_deed
  have D_put_through : Dn P w K mg base 1 "put_through" ["deed", "value"] (spPut K) := k_put_through B A.d_put_through 
  have D_done : Dn P w K mg base 5 "done" ["deed", "value"] (spDone K) := k_done B A.d_done D_want_whole D_want_deed D_put_through
  have D_whole_deed : Dn P w K mg base 1 "whole_deed" ["add", "low", "high"] spWholeDeed := k_whole_deed B A.d_whole_deed 
  have D_one_behind : Dn P w K mg base 2 "one_behind" ["one", "other"] (spBehind K) := k_one_behind B A.d_one_behind D_put_through D_whole_deed
  have D_want_from : Dn P w K mg base 2 "want_from" ["thing", "least"] spWantFrom := k_want_from B A.d_want_from D_is_whole
  have D_again : Dn P w K mg base 5 "again" ["deed", "many"] (spAgain K) := k_again B A.d_again D_want_from D_want_deed D_whole_deed
  have D_stays : Dn P w K mg base 5 "stays" ["deed"] (spStays K) := k_stays B A.d_stays D_want_deed
  have D_is_beyond : Dn P w K mg base 1 "is_beyond" ["deed", "value"] (spBeyond K) := k_is_beyond B A.d_is_beyond 
  have D_leads : Dn P w K mg base 5 "leads" ["deed", "value"] (spLeads K) := k_leads B A.d_leads D_want_whole D_want_deed D_is_beyond
  have D_is_within : Dn P w K mg base 2 "is_within" ["thing", "least", "most"] spIsWithin := k_is_within B A.d_is_within D_is_whole
  have D_want_within : Dn P w K mg base 3 "want_within" ["thing", "least", "most"] spWantWithin := k_want_within B A.d_want_within D_is_within
  have D_want_many : Dn P w K mg base 4 "want_many" ["many"] spWantMany := k_want_many B A.d_want_many D_want_within
  have D_chained : Dn P w K mg base 5 "chained" ["many"] spChained := k_chained B A.d_chained D_want_many
  have D_is_tree : Dn P w K mg base 5 "is_tree" ["thing", "many"] spIsTree := k_is_tree B A.d_is_tree D_want_many D_is_whole
  have D_want_tree : Dn P w K mg base 6 "want_tree" ["tree", "many"] spWantTree := k_want_tree B A.d_want_tree D_is_tree
  have D_want_deeds : Dn P w K mg base 4 "want_deeds" ["deeds"] (spWantDeeds K) := k_want_deeds B A.d_want_deeds D_is_deed
  have D_folded_of : Dn P w K mg base 42 "folded_of" ["deeds", "tree"] ((spFolded K) 40) := k_folded_of B A.d_folded_of D_one_behind
  have D_folded : Dn P w K mg base 45 "folded" ["deeds", "tree"] (spFold K) := k_folded B A.d_folded D_want_deeds D_want_tree D_folded_of
  have D_shared_of : Dn P w K mg base 42 "shared_of" ["deeds", "tree", "value"] ((spShared K) 40) := k_shared_of B A.d_shared_of D_put_through D_one_behind
  have D_shared_out : Dn P w K mg base 46 "shared_out" ["deeds", "tree", "value"] (spShare K) := k_shared_out B A.d_shared_out D_want_whole D_want_deeds D_want_tree D_shared_of
  have D_is_board : Dn P w K mg base 2 "is_board" ["thing"] (spIsBoard K) := k_is_board B A.d_is_board D_is_whole
  have D_want_board : Dn P w K mg base 3 "want_board" ["board"] (spWantBoard K) := k_want_board B A.d_want_board D_is_board
  have D_is_ask : Dn P w K mg base 4 "is_ask" ["board", "thing"] (spIsAsk K) := k_is_ask B A.d_is_ask D_is_whole D_is_deed
  have D_are_asks : Dn P w K mg base 5 "are_asks" ["board", "thing"] (spAreAsks K) := k_are_asks B A.d_are_asks D_want_board D_is_ask
  have D_want_asks : Dn P w K mg base 6 "want_asks" ["board", "asks"] (spWantAsks K) := k_want_asks B A.d_want_asks D_are_asks
  have D_played : Dn P w K mg base 7 "played" ["board", "asks"] (spPlay K) := k_played B A.d_played D_want_asks D_put_through
  have D_all_of : Dn P w K mg base 7 "all_of" ["board", "asks"] (spAll K) := k_all_of B A.d_all_of D_want_asks D_one_behind
  have D_are_numbers : Dn P w K mg base 2 "are_numbers" ["thing", "many"] (spAreNums K) := k_are_numbers B A.d_are_numbers D_is_whole
  have D_is_table : Dn P w K mg base 3 "is_table" ["thing"] (spIsTable K) := k_is_table B A.d_is_table D_are_numbers
  have D_want_table : Dn P w K mg base 4 "want_table" ["table"] (spWantTable K) := k_want_table B A.d_want_table D_is_table
  have D_is_by_table : Dn P w K mg base 2 "is_by_table" ["thing", "states"] (spIsByTable K) := k_is_by_table B A.d_is_by_table D_is_whole
  have D_are_by_table : Dn P w K mg base 3 "are_by_table" ["thing", "most"] (spAreByTable K) := k_are_by_table B A.d_are_by_table D_is_by_table
  have D_want_by_table : Dn P w K mg base 5 "want_by_table" ["deeds", "table"] (spWantBy K) := k_want_by_table B A.d_want_by_table D_want_table D_are_by_table
  have D_want_numbers : Dn P w K mg base 3 "want_numbers" ["table", "numbers"] (spWantNums K) := k_want_numbers B A.d_want_numbers D_are_numbers
  have D_want_grouped : Dn P w K mg base 6 "want_grouped" ["numbers", "tree"] (spGrouped K) := k_want_grouped B A.d_want_grouped D_is_tree
  have D_fold : Dn P w K mg base 41 "fold" ["table", "numbers", "tree"] ((spFold6 K) 40) := k_fold B A.d_fold 
  have D_share : Dn P w K mg base 82 "share" ["deeds", "table", "numbers", "tree", "state"] ((spShare6 K) 40) := k_share B A.d_share D_fold
  have D_folded_by : Dn P w K mg base 47 "folded_by" ["table", "numbers", "tree"] (spFoldBy K) := k_folded_by B A.d_folded_by D_want_table D_want_numbers D_want_grouped D_fold
  have D_shared_by : Dn P w K mg base 84 "shared_by" ["deeds", "table", "numbers", "tree", "state"] (spShareBy K) := k_shared_by B A.d_shared_by D_want_by_table D_want_numbers D_are_numbers D_want_grouped D_share
  have D__law_store : Dn P w K mg base 1 "_law_store" ["_law_script", "_law_k"] (spPot6 K) := k__law_store B A.d__law_store 
  have D__law_draw : Dn P w K mg base 1 "_law_draw" ["_law_store_here", "_law_many"] spTake := k__law_draw B A.d__law_draw 
  have D__law_tree : Dn P w K mg base 42 "_law_tree" ["_law_store_here", "_law_first", "_law_many"] (spLT6 40) := k__law_tree B A.d__law_tree D__law_draw
  have D_one_then : Dn P w K mg base 1 "one_then" ["one", "other"] spThen6 := k_one_then B A.d_one_then 
  have D_want_makers : Dn P w K mg base 4 "want_makers" ["deeds"] (spWantMk K) := k_want_makers B A.d_want_makers D_are_by_table
  have D_grown : Dn P w K mg base 2 "grown" ["deeds"] (spGrown K) := k_grown B A.d_grown D_one_then
  have D_family : Dn P w K mg base 5 "family" ["deeds"] (spFamily K) := k_family B A.d_family D_want_makers D_grown
  have D_own_table : Dn P w K mg base 6 "own_table" ["deeds"] (spOwn K) := k_own_table B A.d_own_table D_family D_one_then
  have D_words : Dn P w K mg base 5 "words" ["deeds"] (spWords K) := k_words B A.d_words D_want_makers D_grown
  have D__law_drawn : Dn P w K mg base 3 "_law_drawn" ["_law_store_here", "_law_states"] spClD := k__law_drawn B A.d__law_drawn D__law_draw
  have D__law_by_table : Dn P w K mg base 7 "_law_by_table" ["_law_deed", "_law_states"] (spByT K) := k__law_by_table B A.d__law_by_table D_done
  have D__law_made : Dn P w K mg base 46 "_law_made" ["_law_deeds", "_law_word"] (spMadeF K) := k__law_made B A.d__law_made D_folded D_chained
  have D__law_power : Dn P w K mg base 2 "_law_power" ["_law_maker", "_law_many"] (spPower K) := k__law_power B A.d__law_power 
  have D__law_within : Dn P w K mg base 1 "_law_within" ["_law_span", "_law_state"] (spIn K) := k__law_within B A.d__law_within 
  have D__law_keeps : Dn P w K mg base 6 "_law_keeps" ["_law_deed", "_law_maker"] (spKeeps K) := k__law_keeps B A.d__law_keeps D_stays D_leads D__law_within
  have D__law_asked : Dn P w K mg base 90 "_law_asked" ["_law_wholes", "_law_makers", "_law_numbers", "_law_tree_here", "_law_start"] (spAsked K) := k__law_asked B A.d__law_asked D_family D_own_table D_shared_out D__law_by_table D_folded D_folded_by D_shared_by D_played D_done D_all_of D_chained
  have D__law_right : Dn P w K mg base 92 "_law_right" ["_law_store_here"] (spRight96 K) := k__law_right B A.d__law_right D__law_draw D__law_drawn D__law_by_table D__law_made D_words D_family D_again D__law_power D__law_keeps D__law_tree D__law_asked
  exact k_law B F D__law_store D__law_right

theorem walk {l : PySem.W.OpenLaw} {q : Program} {loose : List Str} {XP : (Str → Option Value) → Heap → Prop} {YP : World → Heap → Prop} {d : DefRec} {K : Params → PySem.W.Frag} (hn : l.most = some 63) (hdf : d.params.defaults = [])
    (hY : ∀ (w : World) (h : Heap), YP w h → (K w.params).In h) (hname : d.name = "law") (F : ∀ (w : World) (mg : Str → Option Value) (h : Heap), (K w.params).In h → h.Ns mainGlobals mg → AllD (K w.params) mg) :
    PySem.W.WalkO q loose XP YP l.row.toRowW d [] (fun f vs => PySem.call f vs) :=
  walk_G (n := 63) (k := 95) (x := "_law_script") (sp := spLaw) hn (by decide) hdf ⟨rfl, by decide, by decide⟩ hY
    (fun w mg fa h KX G hfa => law_fd (F w mg h KX G) (by rw [hname] at hfa; exact hfa)) fun _ _ a ns hl hS => ⟨a, ns, rfl, hS, hl, fun _ => rfl⟩
end Toy
open PySem PySem.W PyProof.Rows
set_option maxRecDepth 100000 in
set_option maxHeartbeats 0 in
theorem PySem.Challenge.cw_joinedasks_k96_whole_deeds_of_few_states_holds : PySem.Challenge.rw_joinedasks_k96_whole_deeds_of_few_states.Holds := by
  w_on; o_law; k_head; (case hw => w_witness2)
  k_fill
  refine Toy.walk (l := PySem.Challenge.rw_joinedasks_k96_whole_deeds_of_few_states) rfl rfl (fun w h Y => PySem.W.kIn_of Y) rfl ?F
  case F =>
    intro w mg h KX G
    refine' Toy.all_mk (w := w) KX G ?a1 ?l1 ?c1 ?k1 ?a2 ?l2 ?c2 ?k2 ?a3 ?l3 ?c3 ?k3 ?a4 ?l4 ?c4 ?k4 ?a5 ?l5 ?c5 ?k5 ?a6 ?l6 ?c6 ?k6 ?a7 ?l7 ?c7 ?k7 ?a8 ?l8 ?c8 ?k8 ?a9 ?l9 ?c9 ?k9 ?a10 ?l10 ?c10 ?k10 ?a11 ?l11 ?c11 ?k11 ?a12 ?l12 ?c12 ?k12 ?a13 ?l13 ?c13 ?k13 ?a14 ?l14 ?c14 ?k14 ?a15 ?l15 ?c15 ?k15 ?a16 ?l16 ?c16 ?k16 ?a17 ?l17 ?c17 ?k17 ?a18 ?l18 ?c18 ?k18 ?a19 ?l19 ?c19 ?k19 ?a20 ?l20 ?c20 ?k20 ?a21 ?l21 ?c21 ?k21 ?a22 ?l22 ?c22 ?k22 ?a23 ?l23 ?c23 ?k23 ?a24 ?l24 ?c24 ?k24 ?a25 ?l25 ?c25 ?k25 ?a26 ?l26 ?c26 ?k26 ?a27 ?l27 ?c27 ?k27 ?a28 ?l28 ?c28 ?k28 ?a29 ?l29 ?c29 ?k29 ?a30 ?l30 ?c30 ?k30 ?a31 ?l31 ?c31 ?k31 ?a32 ?l32 ?c32 ?k32 ?a33 ?l33 ?c33 ?k33 ?a34 ?l34 ?c34 ?k34 ?a35 ?l35 ?c35 ?k35 ?a36 ?l36 ?c36 ?k36 ?a37 ?l37 ?c37 ?k37 ?a38 ?l38 ?c38 ?k38 ?a39 ?l39 ?c39 ?k39 ?a40 ?l40 ?c40 ?k40 ?a41 ?l41 ?c41 ?k41 ?a42 ?l42 ?c42 ?k42 ?a43 ?l43 ?c43 ?k43 ?a44 ?l44 ?c44 ?k44 ?a45 ?l45 ?c45 ?k45 ?a46 ?l46 ?c46 ?k46 ?a47 ?l47 ?c47 ?k47 ?a48 ?l48 ?c48 ?k48 ?a49 ?l49 ?c49 ?k49 ?a50 ?l50 ?c50 ?k50 ?a51 ?l51 ?c51 ?k51 ?a52 ?l52 ?c52 ?k52 ?a53 ?l53 ?c53 ?k53 ?a54 ?l54 ?c54 ?k54 ?a55 ?l55 ?c55 ?k55 ?a56 ?l56 ?c56 ?k56 ?a57 ?l57 ?c57 ?k57 ?a58 ?l58 ?c58 ?k58 ?a59 ?l59 ?c59 ?k59 ?a60 ?l60 ?c60 ?k60 ?a61 ?l61 ?c61 ?k61 ?a62 ?l62 ?c62 ?k62 ?a63 ?l63 ?c63 ?k63 ?z0 ?z1 ?z2 ?z3 ?z4 ?z5 ?z6 ?z7 ?z8 ?z9 ?z10 ?z11 ?z12 ?z13 ?cst0 ?cst1 ?cst2 ?cst3 ?cstl3 ?cst4 ?cst5 ?cst6 ?cst7
    (case a1 => k_is)
    (case l1 => k_is)
    (case c1 => k_is)
    (case k1 => k_is)
    (case a2 => k_is)
    (case l2 => k_is)
    (case c2 => k_is)
    (case k2 => k_is)
    (case a3 => k_is)
    (case l3 => k_is)
    (case c3 => k_is)
    (case k3 => k_is)
    (case a4 => k_is)
    (case l4 => k_is)
    (case c4 => k_is)
    (case k4 => k_is)
    (case a5 => k_is)
    (case l5 => k_is)
    (case c5 => k_is)
    (case k5 => k_is)
    (case a6 => k_is)
    (case l6 => k_is)
    (case c6 => k_is)
    (case k6 => k_is)
    (case a7 => k_is)
    (case l7 => k_is)
    (case c7 => k_is)
    (case k7 => k_is)
    (case a8 => k_is)
    (case l8 => k_is)
    (case c8 => k_is)
    (case k8 => k_is)
    (case a9 => k_is)
    (case l9 => k_is)
    (case c9 => k_is)
    (case k9 => k_is)
    (case a10 => k_is)
    (case l10 => k_is)
    (case c10 => k_is)
    (case k10 => k_is)
    (case a11 => k_is)
    (case l11 => k_is)
    (case c11 => k_is)
    (case k11 => k_is)
    (case a12 => k_is)
    (case l12 => k_is)
    (case c12 => k_is)
    (case k12 => k_is)
    (case a13 => k_is)
    (case l13 => k_is)
    (case c13 => k_is)
    (case k13 => k_is)
    (case a14 => k_is)
    (case l14 => k_is)
    (case c14 => k_is)
    (case k14 => k_is)
    (case a15 => k_is)
    (case l15 => k_is)
    (case c15 => k_is)
    (case k15 => k_is)
    (case a16 => k_is)
    (case l16 => k_is)
    (case c16 => k_is)
    (case k16 => k_is)
    (case a17 => k_is)
    (case l17 => k_is)
    (case c17 => k_is)
    (case k17 => k_is)
    (case a18 => k_is)
    (case l18 => k_is)
    (case c18 => k_is)
    (case k18 => k_is)
    (case a19 => k_is)
    (case l19 => k_is)
    (case c19 => k_is)
    (case k19 => k_is)
    (case a20 => k_is)
    (case l20 => k_is)
    (case c20 => k_is)
    (case k20 => k_is)
    (case a21 => k_is)
    (case l21 => k_is)
    (case c21 => k_is)
    (case k21 => k_is)
    (case a22 => k_is)
    (case l22 => k_is)
    (case c22 => k_is)
    (case k22 => k_is)
    (case a23 => k_is)
    (case l23 => k_is)
    (case c23 => k_is)
    (case k23 => k_is)
    (case a24 => k_is)
    (case l24 => k_is)
    (case c24 => k_is)
    (case k24 => k_is)
    (case a25 => k_is)
    (case l25 => k_is)
    (case c25 => k_is)
    (case k25 => k_is)
    (case a26 => k_is)
    (case l26 => k_is)
    (case c26 => k_is)
    (case k26 => k_is)
    (case a27 => k_is)
    (case l27 => k_is)
    (case c27 => k_is)
    (case k27 => k_is)
    (case a28 => k_is)
    (case l28 => k_is)
    (case c28 => k_is)
    (case k28 => k_is)
    (case a29 => k_is)
    (case l29 => k_is)
    (case c29 => k_is)
    (case k29 => k_is)
    (case a30 => k_is)
    (case l30 => k_is)
    (case c30 => k_is)
    (case k30 => k_is)
    (case a31 => k_is)
    (case l31 => k_is)
    (case c31 => k_is)
    (case k31 => k_is)
    (case a32 => k_is)
    (case l32 => k_is)
    (case c32 => k_is)
    (case k32 => k_is)
    (case a33 => k_is)
    (case l33 => k_is)
    (case c33 => k_is)
    (case k33 => k_is)
    (case a34 => k_is)
    (case l34 => k_is)
    (case c34 => k_is)
    (case k34 => k_is)
    (case a35 => k_is)
    (case l35 => k_is)
    (case c35 => k_is)
    (case k35 => k_is)
    (case a36 => k_is)
    (case l36 => k_is)
    (case c36 => k_is)
    (case k36 => k_is)
    (case a37 => k_is)
    (case l37 => k_is)
    (case c37 => k_is)
    (case k37 => k_is)
    (case a38 => k_is)
    (case l38 => k_is)
    (case c38 => k_is)
    (case k38 => k_is)
    (case a39 => k_is)
    (case l39 => k_is)
    (case c39 => k_is)
    (case k39 => k_is)
    (case a40 => k_is)
    (case l40 => k_is)
    (case c40 => k_is)
    (case k40 => k_is)
    (case a41 => k_is)
    (case l41 => k_is)
    (case c41 => k_is)
    (case k41 => k_is)
    (case a42 => k_is)
    (case l42 => k_is)
    (case c42 => k_is)
    (case k42 => k_is)
    (case a43 => k_is)
    (case l43 => k_is)
    (case c43 => k_is)
    (case k43 => k_is)
    (case a44 => k_is)
    (case l44 => k_is)
    (case c44 => k_is)
    (case k44 => k_is)
    (case a45 => k_is)
    (case l45 => k_is)
    (case c45 => k_is)
    (case k45 => k_is)
    (case a46 => k_is)
    (case l46 => k_is)
    (case c46 => k_is)
    (case k46 => k_is)
    (case a47 => k_is)
    (case l47 => k_is)
    (case c47 => k_is)
    (case k47 => k_is)
    (case a48 => k_is)
    (case l48 => k_is)
    (case c48 => k_is)
    (case k48 => k_is)
    (case a49 => k_is)
    (case l49 => k_is)
    (case c49 => k_is)
    (case k49 => k_is)
    (case a50 => k_is)
    (case l50 => k_is)
    (case c50 => k_is)
    (case k50 => k_is)
    (case a51 => k_is)
    (case l51 => k_is)
    (case c51 => k_is)
    (case k51 => k_is)
    (case a52 => k_is)
    (case l52 => k_is)
    (case c52 => k_is)
    (case k52 => k_is)
    (case a53 => k_is)
    (case l53 => k_is)
    (case c53 => k_is)
    (case k53 => k_is)
    (case a54 => k_is)
    (case l54 => k_is)
    (case c54 => k_is)
    (case k54 => k_is)
    (case a55 => k_is)
    (case l55 => k_is)
    (case c55 => k_is)
    (case k55 => k_is)
    (case a56 => k_is)
    (case l56 => k_is)
    (case c56 => k_is)
    (case k56 => k_is)
    (case a57 => k_is)
    (case l57 => k_is)
    (case c57 => k_is)
    (case k57 => k_is)
    (case a58 => k_is)
    (case l58 => k_is)
    (case c58 => k_is)
    (case k58 => k_is)
    (case a59 => k_is)
    (case l59 => k_is)
    (case c59 => k_is)
    (case k59 => k_is)
    (case a60 => k_is)
    (case l60 => k_is)
    (case c60 => k_is)
    (case k60 => k_is)
    (case a61 => k_is)
    (case l61 => k_is)
    (case c61 => k_is)
    (case k61 => k_is)
    (case a62 => k_is)
    (case l62 => k_is)
    (case c62 => k_is)
    (case k62 => k_is)
    (case a63 => k_is)
    (case l63 => k_is)
    (case c63 => k_is)
    (case k63 => k_is)
    (case z0 => k_is)
    (case z1 => k_is)
    (case z2 => k_is)
    (case z3 => k_is)
    (case z4 => k_is)
    (case z5 => k_is)
    (case z6 => k_is)
    (case z7 => k_is)
    (case z8 => k_is)
    (case z9 => k_is)
    (case z10 => k_is)
    (case z11 => k_is)
    (case z12 => k_is)
    (case z13 => k_is)
    (case cst0 => k_is)
    (case cst1 => k_is)
    (case cst2 => k_is)
    (case cst3 => k_is)
    (case cstl3 => k_is)
    (case cst4 => k_is)
    (case cst5 => k_is)
    (case cst6 => k_is)
    (case cst7 => k_is)
#print axioms PySem.Challenge.cw_joinedasks_k96_whole_deeds_of_few_states_holds

