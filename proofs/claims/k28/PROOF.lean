import PyProof.Rows.All
import Wide.All
import OpenK.AllK
import Wide.FinOn
import HandS.ForMost
import HandS.Defaults
import HandS.WideBits
import HandS.Conv
import HandS.IsInst
import HandS.RaiseMore
import HandS.SortInts
import HandS.Style
import HandS.Codes
import HandS.ForExc
import HandS.TryMany
import HandS.Flow
import KE.KEqSeq
import PyProof.ReprRoads
import KE.GoesMore
import KE.KDictZip
import PyProof.ListNew
import HandS.Zip
import HandS.TupAny
import HandS.More
import PySem.Challenge.RW_joinedasks_k28_whole_parted_and_exchange
set_option Elab.async false
set_option linter.all false
set_option maxRecDepth 100000
set_option maxHeartbeats 4000000
set_option exponentiation.threshold 100000
namespace Toy
open PySem PySem.Spec PyProof.Rows L2
/-- a def of the text stands behind its name -/
structure Df (K : PySem.W.Frag) (mg : Str → Option Value) (x : Str) (st : Stmt) (ps : List Str) : Prop where
  ex : ∃ f fd, Fun K x x st f fd ∧ mg x = some (.ref f) ∧ Binds K fd ps []
theorem Df.of {K : PySem.W.Frag} {mg : Str → Option Value} {x : Str} {st : Stmt} {ps : List Str} {f : Addr} {oc : Value} {od an : Option Addr} {osl : Array (Option Value)} {kV doc pm cdv ct : Value}
    (l : K.lookup f = some ⟨oc, od, .func (PySem.W.fnOf x x (defArgs st) (defBody st) (defScope st) .none kV doc pm an cdv ct), osl⟩) (c : PySem.W.codeIn K cdv x = true) (k : PySem.W.keepIn K (.ref f) = true) (m : mg x = some (.ref f))
    (h : ∀ (kV doc pm : Value) (an : Option Addr) (cdv ct : Value) (us : List Value), us.length = ps.length → bindArgs (PySem.W.fnOf x x (defArgs st) (defBody st) (defScope st) .none kV doc pm an cdv ct) ⟨us, []⟩ = pure (ps.zip us)) : Df K mg x st ps :=
  ⟨_, _, fun_mk l c k, m, (fun_mk l c k).binds h⟩
end Toy
namespace Toy
open PySem PySem.Spec PyProof.Rows L2
/-- room for calls, and nothing is being shown (repr, str of containers ask that) -/
structure RoomG (k : Nat) (A : Around) : Prop where
  room : Room k A
  idle : A.guards = some []
theorem RoomG.less {j k : Nat} {A : Around} (r : RoomG k A) (h : j ≤ k) : RoomG j A := ⟨r.room.mono h, r.idle⟩
theorem RoomG.units {k : Nat} {A : Around} (r : RoomG k A) : A.units + 64 < cLine := r.room.units
theorem RoomG.in_ {k : Nat} {A : Around} (r : RoomG (k + 1) A) (env : Env) : RoomG k (A.deeper env) := ⟨r.room.deeper env, r.idle⟩
/-- a def's promise under such a call -/
structure FnG (P : Program) (w : World) (K : PySem.W.Frag) (mg : Str → Option Value) (base : Heap) (CX : CXT) (k : Nat) (f : Addr) (fd : FuncData) (ps : List Str) (sp : Sp) : Prop where
  arity : ∀ vs H Q E, sp vs H Q E → vs.length = ps.length
  go : ∀ {A : Around} {outer : List Env} {s : Shared} {H : Hp} {args : Args} {us : List Value} {vs : List V} {Q : VK} {E : XK}, RoomG k A → Env0 P w K mg base A outer s H →
    BindsTo s fd args (ps.zip us) → Vals vs us → sp vs H Q E → codeAny (model P w) A (.call (.ref f) args) (CR CX outer P w H s Q E) s
section
variable {P : Program} {w : World} {K : PySem.W.Frag} {mg : Str → Option Value} {base : Heap} {CX : CXT}
/-- a body that ends well ends the call well -/
theorem flow_end {N : List Str} {qual : Str} {scope : Scope} {f : Addr} {cd : Value} {A : Around} {outer : List Env} {s : Shared} {H : Hp} {Q : VK} {E : XK} {fl : Flow} {s' : Shared}
    (h : SP (cxOf CX P w K mg base N qual scope f cd A outer s H E) [] { nx := fun _ H' => Q .non H', rt := Q } fl s') :
    ∃ u, (fl = .next ∧ u = Value.none ∨ fl = .ret u) ∧ CE outer P w H s Q u s' := by
  cases fl with
  | next =>
    obtain ⟨σ, H1, J, q⟩ := h
    exact ⟨_, .inl ⟨rfl, rfl⟩, .non, H1, J.os, J.bare, J.base, J.hok, rfl, q⟩
  | ret u =>
    obtain ⟨v, σ, H1, J, r, q⟩ := h
    exact ⟨u, .inr rfl, v, H1, J.os, J.bare, J.base, J.hok, r, q⟩
  | brk =>
    obtain ⟨_, _, _, q⟩ := h
    cases q
  | cont =>
    obtain ⟨_, _, _, q⟩ := h
    cases q
/-- a def of the text, whatever its defaults -/
structure FunA (K : PySem.W.Frag) (x qual : Str) (st : Stmt) (f : Addr) (fd : FuncData) : Prop where
  ex : ∃ (oc : Value) (od : Option Addr) (dV kV doc pm : Value) (an : Option Addr) (cdv ct : Value) (osl : Array (Option Value)),
    fd = PySem.W.fnOf x qual (defArgs st) (defBody st) (defScope st) dV kV doc pm an cdv ct ∧ K.lookup f = some ⟨oc, od, .func fd, osl⟩ ∧ PySem.W.codeIn K cdv qual = true
theorem toA {K : PySem.W.Frag} {x qual : Str} {st : Stmt} {f : Addr} {fd : FuncData} (F : Fun K x qual st f fd) : FunA K x qual st f fd := by
  obtain ⟨oc, od, kV, doc, pm, an, cdv, ct, osl, e, lk, hcd⟩ := F.ex
  exact ⟨⟨oc, od, .none, kV, doc, pm, an, cdv, ct, osl, e, lk, hcd⟩⟩
theorem okGA {x qual : Str} {st : Stmt} {f : Addr} {fd : FuncData} {N ps : List Str} {k : Nat} {sp : Sp} (F : FunA K x qual st f fd) (S : FnScope N ps (defScope st)) (ar : ∀ vs H Q E, sp vs H Q E → vs.length = ps.length)
    (body : ∀ (cdv : Value) (A : Around) (outer : List Env) (s : Shared) (H : Hp) (vs : List V) (Q : VK) (E : XK), RoomG k (A.deeper (envOfC qual (defScope st) s.heap.objs.size f cdv)) → sp vs H Q E →
      ∃ t, PSs (cxOf CX P w K mg base N qual (defScope st) f cdv A outer s H E) (defBody st) t ∧ t { nx := fun _ H' => Q .non H', rt := Q } (start N vs) H) : FnG P w K mg base CX (k + 1) f fd ps sp := by
  obtain ⟨oc, od, dV, kV, doc, pm, an, cdv, ct, osl, rfl, lk, hcd⟩ := F.ex
  refine ⟨ar, ?_⟩
  intro A outer s H args us vs Q E room e0 hb rv hsp
  have kin : K.In s.heap := e0.mod.kin.keeps fun b o z => (e0.bs b o z).1
  have nolim : s.heap.NoLimit := e0.mod.nolimit.keeps fun b o z => (e0.bs b o z).1
  have kinds : ∀ y ∈ ps.zip us, (defScope st).names.lookup y.1 = some .local ∨ ((defScope st).names.lookup y.1 = some .cell ∧ ((cellsFrom (s.heap.objs.size + 1) (defScope st).names []).lookup y.1).isSome = true) := by
    rintro ⟨n, v⟩ hy
    exact (S.par n (List.of_mem_zip hy).1).imp _root_.id fun q => ⟨q, PySem.W.cellsFrom_some _ _ _ (.inl q)⟩
  refine codeAny_call_function room.room.depth (kin _ _ lk) rfl S.co S.gen rfl (PySem.W.codeRec_of kin hcd) (hb _ _ _ _ (wpAny_newFunctionEnv_cells S.kind kinds fun env he s1 inC => ?_))
  subst he
  obtain ⟨t, ht, hq⟩ := body cdv A outer s H vs Q E (room.in_ _) hsp
  refine ⟨nolim.keeps inC.toInCall.keep, codeAny_func (wpAny_mono (ht.run [] s1 (start N vs) H _ (inv_start S room.room.hd e0 (ar _ _ _ _ hsp) rv inC) hq) (fun fl s' z => ?_) fun e s' z => z)⟩
  obtain ⟨u, c, q⟩ := flow_end z
  rcases c with ⟨rfl, rfl⟩ | rfl
  · exact q
  · exact q
theorem okG0A {x qual : Str} {st : Stmt} {f : Addr} {fd : FuncData} {N ps : List Str} {k : Nat} {sp : Sp} (F : FunA K x qual st f fd) (S : FnScope N ps (defScope st)) (ar : ∀ vs H Q E, sp vs H Q E → vs.length = ps.length)
    (body : ∀ (cdv : Value) (A : Around) (outer : List Env) (s : Shared) (H : Hp) (vs : List V) (Q : VK) (E : XK), RoomG k (A.deeper (envOfC qual (defScope st) s.heap.objs.size f cdv)) → sp vs H Q E →
      ∃ t, PSs (cxOf CX0 P w K mg base N qual (defScope st) f cdv A outer s H E).nox (defBody st) t ∧ t { nx := fun _ H' => Q .non H', rt := Q } (start N vs) H) : FnG P w K mg base CX0 (k + 1) f fd ps sp :=
  okGA F S ar fun cdv A outer s H vs Q E hr hsp => (body cdv A outer s H vs Q E hr hsp).imp fun _ z => ⟨z.1.nox, z.2⟩
theorem okG {x qual : Str} {st : Stmt} {f : Addr} {fd : FuncData} {N ps : List Str} {k : Nat} {sp : Sp} (F : Fun K x qual st f fd) (S : FnScope N ps (defScope st)) (ar : ∀ vs H Q E, sp vs H Q E → vs.length = ps.length)
    (body : ∀ (cdv : Value) (A : Around) (outer : List Env) (s : Shared) (H : Hp) (vs : List V) (Q : VK) (E : XK), RoomG k (A.deeper (envOfC qual (defScope st) s.heap.objs.size f cdv)) → sp vs H Q E →
      ∃ t, PSs (cxOf CX P w K mg base N qual (defScope st) f cdv A outer s H E) (defBody st) t ∧ t { nx := fun _ H' => Q .non H', rt := Q } (start N vs) H) : FnG P w K mg base CX (k + 1) f fd ps sp :=
  okGA (toA F) S ar body
theorem okG0 {x qual : Str} {st : Stmt} {f : Addr} {fd : FuncData} {N ps : List Str} {k : Nat} {sp : Sp} (F : Fun K x qual st f fd) (S : FnScope N ps (defScope st)) (ar : ∀ vs H Q E, sp vs H Q E → vs.length = ps.length)
    (body : ∀ (cdv : Value) (A : Around) (outer : List Env) (s : Shared) (H : Hp) (vs : List V) (Q : VK) (E : XK), RoomG k (A.deeper (envOfC qual (defScope st) s.heap.objs.size f cdv)) → sp vs H Q E →
      ∃ t, PSs (cxOf CX0 P w K mg base N qual (defScope st) f cdv A outer s H E).nox (defBody st) t ∧ t { nx := fun _ H' => Q .non H', rt := Q } (start N vs) H) : FnG P w K mg base CX0 (k + 1) f fd ps sp :=
  okG0A (toA F) S ar body
end
section
variable {X : Cx} {CX : CXT} {k : Nat} {f : Addr} {fd : FuncData} {ps : List Str} {sp : Sp}
theorem run_G {pins : List (Addr × Obj)} {σ : L2.St} {H : Hp} {s : Shared} {Q : VK} {E : XK} {us : List Value} {vs : List V} (F : FnG X.prog X.w X.K X.mg X.base CX k f fd ps sp) (hr : RoomG k X.A) (hb : Binds X.K fd ps [])
    (out : ∀ e s', CX X.stack H s E e s' → X.xe e s') (I : Inv X pins σ H s) (r : Vals vs us) (h : sp vs H Q E) : wpAny (model X.prog X.w) X.A (call (.ref f) us) (EP X pins σ Q) X.xe s := by
  have n := (r.length).symm.trans (F.arity _ _ _ _ h)
  have b := hb s us I.kIn (by rw [List.append_nil, n])
  rw [List.append_nil] at b
  refine wpAny_call (codeAny_mono (F.go hr I.env0 b r h) ?_)
  rintro (e | fl) s' q
  · exact out e s' q
  · match fl, q with
    | .ret u, q => exact I.after q
/-- a def and its promise, by its name -/
structure Dn (P : Program) (w : World) (K : PySem.W.Frag) (mg : Str → Option Value) (base : Heap) (k : Nat) (x : Str) (ps : List Str) (sp : Sp) : Prop where
  ex : ∃ f fd, FnG P w K mg base CX0 k f fd ps sp ∧ PySem.W.keepIn K (.ref f) = true ∧ mg x = some (.ref f) ∧ Binds K fd ps []
/-- .. that may raise -/
structure Dx (P : Program) (w : World) (K : PySem.W.Frag) (mg : Str → Option Value) (base : Heap) (k : Nat) (x : Str) (ps : List Str) (sp : Sp) : Prop where
  ex : ∃ f fd, FnG P w K mg base (L2.CX P w) k f fd ps sp ∧ PySem.W.keepIn K (.ref f) = true ∧ mg x = some (.ref f) ∧ Binds K fd ps []
theorem Df.ok {P : Program} {w : World} {K : PySem.W.Frag} {mg : Str → Option Value} {base : Heap} {x : Str} {st : Stmt} (D : Df K mg x st ps)
    (h : ∀ f fd, Fun K x x st f fd → FnG P w K mg base CX0 k f fd ps sp) : Dn P w K mg base k x ps sp := by
  obtain ⟨f, fd, F, m, b⟩ := D.ex
  exact ⟨f, fd, h f fd F, F.kp, m, b⟩
theorem Df.okX {P : Program} {w : World} {K : PySem.W.Frag} {mg : Str → Option Value} {base : Heap} {x : Str} {st : Stmt} (D : Df K mg x st ps)
    (h : ∀ f fd, Fun K x x st f fd → FnG P w K mg base (L2.CX P w) k f fd ps sp) : Dx P w K mg base k x ps sp := by
  obtain ⟨f, fd, F, m, b⟩ := D.ex
  exact ⟨f, fd, h f fd F, F.kp, m, b⟩
variable {x : Str} {p pos : Pos} {e : Expr} {es : List Expr} {t : TA}
theorem pe_cD (D : Dn X.prog X.w X.K X.mg X.base k x ps sp) (hr : RoomG k X.A) (hg : Gl X x) (ha : PA X (e :: es) t) (hdb : (x == ("__debug__" : Str)) = false := by decide)
    (he : starEach (e :: es) X.env = (false, eval e X.env) :: starEach es X.env := by rfl) (hpl : (backTo pos (starEach es X.env)).any (·.1) = false := by rfl) : PE X (.Call (.Name x p) (e :: es) [] pos) (tCall sp [] E0 t) := by
  obtain ⟨f, fd, F, hk, hm, hb⟩ := D.ex
  refine ⟨fun pins s σ H Q I h => wpAny_Call_Name_kw (ld_glob I hg hm (PySem.W.callWith_K (h₀ := X.base) I.ok.mod.kin hk (thn (ha.run pos pins s σ H _ I h) fun us s1 ⟨vs, H1, I1, r, q⟩ => ⟨I1.kIn, ?_⟩) he hpl) hdb)⟩
  have q' : sp vs H1 Q E0 := by
    have z : sp (vs ++ []) H1 Q E0 := q
    rw [List.append_nil] at z
    exact z
  exact run_G F hr hb (fun _ _ z => z.elim) I1 r q'
theorem pe_cD0 (D : Dn X.prog X.w X.K X.mg X.base k x ps sp) (hr : RoomG k X.A) (hg : Gl X x) (hdb : (x == ("__debug__" : Str)) = false := by decide) : PE X (.Call (.Name x p) [] [] pos) (tCall sp [] E0 tNil) := by
  obtain ⟨f, fd, F, hk, hm, hb⟩ := D.ex
  refine ⟨fun pins s σ H Q I h => wpAny_Call_Name_kw (ld_glob I hg hm (PySem.W.callWith_K0 I.kIn hk (run_G (us := []) F hr hb (fun _ _ z => z.elim) I .nil h)) hdb)⟩
/-- a def with defaults: dvs fill up -/
structure Dfd (K : PySem.W.Frag) (mg : Str → Option Value) (x : Str) (st : Stmt) (ps : List Str) (dvs : List V) : Prop where
  ex : ∃ (f : Addr) (fd : FuncData) (ds : List Value), FunA K x x st f fd ∧ PySem.W.keepIn K (.ref f) = true ∧ mg x = some (.ref f) ∧ Binds K fd ps ds ∧ Vals dvs ds
theorem Dfd.of {K : PySem.W.Frag} {mg : Str → Option Value} {x : Str} {st : Stmt} {ps : List Str} {dvs : List V} {f T : Addr} {oc : Value} {od an : Option Addr} {osl : Array (Option Value)} {kV doc pm cdv ct : Value} {o : Obj} {its : List Value} {n m : Nat}
    (l : K.lookup f = some ⟨oc, od, .func (PySem.W.fnOf x x (defArgs st) (defBody st) (defScope st) (.ref T) kV doc pm an cdv ct), osl⟩) (c : PySem.W.codeIn K cdv x = true) (k : PySem.W.keepIn K (.ref f) = true) (mx : mg x = some (.ref f))
    (lT : K.lookup T = some o) (oT : o.data = .seq its.toArray m) (rT : Vals dvs its) (hn : n + dvs.length = ps.length)
    (h : ∀ (us : List Value), us.length = n → ∃ kk, bindArgs (PySem.W.fnOf x x (defArgs st) (defBody st) (defScope st) (.ref T) kV doc pm an cdv ct) ⟨us, []⟩ = seqItems? (.ref T) >>= kk ∧ kk (some its.toArray) = pure (ps.zip (us ++ its))) : Dfd K mg x st ps dvs := by
  refine ⟨f, _, its, ⟨⟨_, _, _, _, _, _, _, _, _, _, rfl, l, c⟩⟩, k, mx, fun s us X hlen => ?_, rT⟩
  have l1 := rT.length
  have l2 : us.length = n := by
    rw [List.length_append] at hlen
    omega
  obtain ⟨kk, e1, e2⟩ := h us l2
  refine BindsTo.of_looks fun M => ?_
  rw [e1]
  exact looks_items X lT oT (.of_pure e2)
/-- .. all parameters given -/
theorem Dfd.ofAll {K : PySem.W.Frag} {mg : Str → Option Value} {x : Str} {st : Stmt} {ps : List Str} {f T : Addr} {oc : Value} {od an : Option Addr} {osl : Array (Option Value)} {kV doc pm cdv ct : Value} {o : Obj} {its : List Value} {n m : Nat}
    (l : K.lookup f = some ⟨oc, od, .func (PySem.W.fnOf x x (defArgs st) (defBody st) (defScope st) (.ref T) kV doc pm an cdv ct), osl⟩) (c : PySem.W.codeIn K cdv x = true) (k : PySem.W.keepIn K (.ref f) = true) (mx : mg x = some (.ref f))
    (lT : K.lookup T = some o) (oT : o.data = .seq its.toArray m) (hn : n = ps.length)
    (h : ∀ (us : List Value), us.length = n → ∃ kk, bindArgs (PySem.W.fnOf x x (defArgs st) (defBody st) (defScope st) (.ref T) kV doc pm an cdv ct) ⟨us, []⟩ = seqItems? (.ref T) >>= kk ∧ kk (some its.toArray) = pure (ps.zip us)) : Dfd K mg x st ps [] := by
  refine ⟨f, _, [], ⟨⟨_, _, _, _, _, _, _, _, _, _, rfl, l, c⟩⟩, k, mx, fun s us X hlen => ?_, .nil⟩
  have l2 : us.length = n := by
    rw [List.append_nil] at hlen
    omega
  obtain ⟨kk, e1, e2⟩ := h us l2
  refine BindsTo.of_looks fun M => ?_
  rw [e1, List.append_nil]
  exact looks_items X lT oT (.of_pure e2)
/-- .. and its promise -/
structure DnD (P : Program) (w : World) (K : PySem.W.Frag) (mg : Str → Option Value) (base : Heap) (k : Nat) (x : Str) (ps : List Str) (dvs : List V) (sp : Sp) : Prop where
  ex : ∃ (f : Addr) (fd : FuncData) (ds : List Value), FnG P w K mg base CX0 k f fd ps sp ∧ PySem.W.keepIn K (.ref f) = true ∧ mg x = some (.ref f) ∧ Binds K fd ps ds ∧ Vals dvs ds
theorem Dfd.ok {P : Program} {w : World} {K : PySem.W.Frag} {mg : Str → Option Value} {base : Heap} {x : Str} {st : Stmt} {dvs : List V} (D : Dfd K mg x st ps dvs)
    (h : ∀ f fd, FunA K x x st f fd → FnG P w K mg base CX0 k f fd ps sp) : DnD P w K mg base k x ps dvs sp := by
  obtain ⟨f, fd, ds, F, kp, m, b, d⟩ := D.ex
  exact ⟨f, fd, ds, h f fd F, kp, m, b, d⟩
theorem run_Gd {pins : List (Addr × Obj)} {σ : L2.St} {H : Hp} {s : Shared} {Q : VK} {E : XK} {us ds : List Value} {vs dvs : List V} (F : FnG X.prog X.w X.K X.mg X.base CX k f fd ps sp) (hr : RoomG k X.A) (hb : Binds X.K fd ps ds) (hd : Vals dvs ds)
    (out : ∀ e s', CX X.stack H s E e s' → X.xe e s') (I : Inv X pins σ H s) (r : Vals vs us) (h : sp (vs ++ dvs) H Q E) : wpAny (model X.prog X.w) X.A (call (.ref f) us) (EP X pins σ Q) X.xe s := by
  have r2 : Vals (vs ++ dvs) (us ++ ds) := r.append hd
  have n : (us ++ ds).length = ps.length := by rw [← r2.length]; exact F.arity _ _ _ _ h
  refine wpAny_call (codeAny_mono (F.go hr I.env0 (hb s us I.kIn n) r2 h) ?_)
  rintro (e | fl) s' q
  · exact out e s' q
  · match fl, q with
    | .ret u, q => exact I.after q
theorem pe_cDd {dvs : List V} (D : DnD X.prog X.w X.K X.mg X.base k x ps dvs sp) (hr : RoomG k X.A) (hg : Gl X x) (ha : PA X (e :: es) t) (hdb : (x == ("__debug__" : Str)) = false := by decide)
    (he : starEach (e :: es) X.env = (false, eval e X.env) :: starEach es X.env := by rfl) (hpl : (backTo pos (starEach es X.env)).any (·.1) = false := by rfl) : PE X (.Call (.Name x p) (e :: es) [] pos) (tCall sp dvs E0 t) := by
  obtain ⟨f, fd, ds, F, hk, hm, hb, hd⟩ := D.ex
  refine ⟨fun pins s σ H Q I h => wpAny_Call_Name_kw (ld_glob I hg hm (PySem.W.callWith_K (h₀ := X.base) I.ok.mod.kin hk (thn (ha.run pos pins s σ H _ I h) fun us s1 ⟨vs, H1, I1, r, q⟩ => ⟨I1.kIn, ?_⟩) he hpl) hdb)⟩
  exact run_Gd F hr hb hd (fun _ _ z => z.elim) I1 r q
/-- a call within a try: what is raised is wished at the slots -/
theorem pe_cX {E : L2.St → XK} (D : Dx X.prog X.w X.K X.mg X.base k x ps sp) (hr : RoomG k X.A) (hg : Gl X x) (hx : ∀ σ, PassesAt (L2.CX X.prog X.w) X σ (E σ)) (ha : PA X (e :: es) t) (hdb : (x == ("__debug__" : Str)) = false := by decide)
    (he : starEach (e :: es) X.env = (false, eval e X.env) :: starEach es X.env := by rfl) (hpl : (backTo pos (starEach es X.env)).any (·.1) = false := by rfl) : PE X (.Call (.Name x p) (e :: es) [] pos) (tCallS sp E t) := by
  obtain ⟨f, fd, F, hk, hm, hb⟩ := D.ex
  exact ⟨fun pins s σ H Q I h => wpAny_Call_Name_kw (ld_glob I hg hm (PySem.W.callWith_K (h₀ := X.base) I.ok.mod.kin hk (thn (ha.run pos pins s σ H _ I h) fun us s1 ⟨vs, H1, I1, r, q⟩ =>
    ⟨I1.kIn, run_G F hr hb (fun e s' z => hx σ pins H1 s1 e s' I1 z) I1 r q⟩) he hpl) hdb)⟩
/-- repr of what is data -/
def rRepr (K : PySem.W.Frag) : List V → Hp → VK → Prop := fun xs H Q => ∃ (x : V) (d : PyData), xs = [x] ∧ Dp K H x d ∧ d.showable = true ∧ d.depth ≤ 60 ∧ d.shown.length ≤ sizeLine ∧ Q (.str d.shown) H
mutual
theorem dp_noDict {K : PySem.W.Frag} {H : Hp} : ∀ (d : PyData) (x : V), Dp K H x d → d.hasDict = false
  | .none, _, _ => rfl
  | .bool _, _, _ => rfl
  | .int _, _, _ => rfl
  | .str _, _, _ => rfl
  | .list ds, _, h => by
    cases h with
    | lst _ ha => simpa [PyData.hasDict] using dp_noDicts ds _ ha
  | .tuple ds, _, h => by
    cases h with
    | tup _ ha => simpa [PyData.hasDict] using dp_noDicts ds _ ha
  | .dict _, _, h => by cases h
theorem dp_noDicts {K : PySem.W.Frag} {H : Hp} : ∀ (ds : List PyData) (xs : List V), DpAll K H xs ds → PyData.hasDictAll ds = false
  | [], _, _ => by simp [PyData.hasDictAll]
  | d :: ds, _, h => by
    cases h with
    | cons a b => simp [PyData.hasDictAll, dp_noDict d _ a, dp_noDicts ds _ b]
end
theorem reprK {K : PySem.W.Frag} (hr : RoomG k X.A) (eK : X.K = K := by rfl) : CallR X (.builtin "repr") (rRepr K) := by
  cases eK
  intro pins s σ H xs us Q I r h
  obtain ⟨x, d, rfl, hd, hs, hdep, hz, q⟩ := h
  obtain ⟨u, rfl, rx⟩ := vals1 r
  obtain ⟨as, rd⟩ := Dp.reads I d x u hd rx
  have hu := hr.units
  have nd := dp_noDict d x hd
  cases hd with
  | non => cases rx; exact PySem.P.repr_of_none ⟨.str _, H, I.tok _, ⟨_, rfl⟩, q⟩
  | bl b => cases rx; exact PySem.P.repr_of_bool ⟨.str _, H, I.tok _, ⟨_, rfl⟩, q⟩
  | int i => obtain ⟨t, rfl⟩ := rx; exact PySem.P.repr_of_int (of_decide_eq_true (by simpa [PyData.showable] using hs)) ⟨.str _, H, I.tok _, ⟨_, rfl⟩, q⟩
  | str z => obtain ⟨t, rfl⟩ := rx; exact PySem.P.repr_of_str ⟨.str _, H, I.tok _, ⟨_, rfl⟩, q⟩ hz
  | lst hq ha =>
    cases rx
    refine repr_of_reads' rd hs (PyData.noDict_hsm nd) hr.idle (by omega) (fun _ _ z => z) (fun h' u tk hk => ⟨.str _, H, I.kept hk, ⟨_, rfl⟩, q⟩) hz
  | tup hq ha =>
    cases rx
    refine repr_of_reads' rd hs (PyData.noDict_hsm nd) hr.idle (by omega) (fun _ _ z => z) (fun h' u tk hk => ⟨.str _, H, I.kept hk, ⟨_, rfl⟩, q⟩) hz
end
end Toy
namespace Toy
open PySem PySem.Spec PyProof.Rows L2
/-- what was tracked stays, but for one object -/
def But (p : Addr) (H H' : Hp) : Prop := ∀ b o, b ≠ p → H b = some o → H' b = some o
theorem But.refl {p : Addr} {H : Hp} : But p H H := fun _ _ _ h => h
theorem But.trans {p : Addr} {H H1 H2 : Hp} (a : But p H H1) (b : But p H1 H2) : But p H H2 := fun c o n h => b c o n (a c o n h)
theorem But.free {p : Addr} {H H' : Hp} (e : But p H H') {l : Addr} (n : l ≠ p) (h : H' l = Option.none) : H l = Option.none := by
  cases q : H l with
  | none => rfl
  | some o =>
    rw [e l o n q] at h
    cases h
theorem same_but {p : Addr} {H H' : Hp} (a : Same H H') : But p H H' := fun c o _ h => a c o h
theorem But.upd {p : Addr} {H : Hp} {o : HO} : But p H (upd H p o) := fun b u n h => by rw [upd_ne n]; exact h
theorem same_new {H : Hp} {p : Addr} (h : H p = none) (o : HO) : Same H (upd H p o) := fun b u q => by rw [upd_ne (ne_of_none q h)]; exact q
theorem but_tup {p : Addr} {K : PySem.W.Frag} {H H' : Hp} {a : Addr} {xs ys : List V} (e : But p H H') (hp : H p = some (.lst ys)) (h : SqT K H a xs) : SqT K H' a xs := by
  rcases h with (h | ⟨o, h⟩) | h
  · exact .inl (.inl (e _ _ (ne_of h hp (by intro z; cases z)) h))
  · exact .inl (.inr ⟨o, e _ _ (ne_of h hp (by intro z; cases z)) h⟩)
  · exact .inr h
theorem same_tup {K : PySem.W.Frag} {H H' : Hp} {a : Addr} {xs : List V} (e : Same H H') (h : SqT K H a xs) : SqT K H' a xs := by
  rcases h with (h | ⟨o, h⟩) | h
  · exact .inl (.inl (e _ _ h))
  · exact .inl (.inr ⟨o, e _ _ h⟩)
  · exact .inr h
/-- the script stays -/
theorem but_seq {p : Addr} {K : PySem.W.Frag} {H H' : Hp} {a : Addr} {xs : List V} (e : But p H H') (n : a ≠ p) (h : SqL K H a xs) : SqL K H' a xs := by
  rcases h with (h | ⟨o, h⟩) | h
  · exact .inl (.inl (e _ _ n h))
  · exact .inl (.inr ⟨o, e _ _ n h⟩)
  · exact .inr h
theorem small {n : Nat} (h : n ≤ 1000) : n ≤ sizeLine := Nat.le_of_lt (small1000 h)
theorem log_lt {i : Int} {n : Nat} (h0 : 0 < n) (h : i.natAbs < 2 ^ n) : i.natAbs.log2 < n := PySem.Flt.log2_lt_of h0 h
theorem divp_small {i j : Int} (hj : 0 < j) (h : j < 2 ^ 8000) : CDivP i j := by
  refine ⟨hj, PyProof.noPylong_of_log2 ?_⟩
  exact Nat.lt_trans (log_lt (n := 8000) (by decide) (by omega)) (by decide)
end Toy
namespace Toy
open PySem PySem.Spec PyProof.Rows L2
theorem ifT {c : Bool} {A B : Prop} (hc : c = true) (h : A) : if c = true then A else B := by rw [if_pos hc]; exact h
theorem ifF {c : Bool} {A B : Prop} (hc : c = false) (h : B) : if c = true then A else B := by rw [hc]; exact iteF h
theorem pj {j : Int} (h : decide ((0 : Int) < j) = true := by decide) : 0 < j := of_decide_eq_true h
theorem sz {xs : List V} (h : Nat.ble xs.length 1000 = true := by rfl) : xs.length ≤ sizeLine := small (Nat.le_of_ble_eq_true h)
theorem but_same {p : Addr} {H H1 H2 : Hp} (n : H p = none) (a : Same H H1) (b : But p H1 H2) : Same H H2 := fun c o h => b c o (ne_of_none h n) (a c o h)
/-- two ways of a value meet -/
theorem ifE {ta tb : TE} {σ : L2.St} {H : Hp} {Q : VK} {b : Bool} (R : V → Hp → Prop) (h : ∀ v H', R v H' → Q v H') (h1 : b = true → ∀ Q' : VK, (∀ v H', R v H' → Q' v H') → ta σ H Q') (h2 : b = false → ∀ Q' : VK, (∀ v H', R v H' → Q' v H') → tb σ H Q') :
    if b = true then ta σ H Q else tb σ H Q := by
  cases b with
  | true => exact iteT (h1 rfl Q h)
  | false => exact iteF (h2 rfl Q h)
theorem mulx {i j : Int} (a b : Nat) (ha : i.natAbs < 2 ^ a) (hb : j.natAbs < 2 ^ b) (h : a + b ≤ 134217728 := by decide) : CMulX i j := mulx_ok ha hb h
end Toy
namespace Toy
open PySem PySem.Spec PyProof.Rows L2
theorem qi {Q : VK} {H : Hp} {a b : Int} (q : Q (.int a) H) (e : a = b) : Q (.int b) H := e ▸ q
end Toy
namespace Toy
open PySem PySem.Spec PyProof.Rows L2
/-- the written part by its letter -/
theorem kk {α : Sort _} {P : α → Prop} {F : PySem.W.Frag → α} {K0 K : PySem.W.Frag} (h : P (F K0)) (e : K0 = K := by rfl) : P (F K) := e ▸ h
def rLen (K : PySem.W.Frag) : List V → Hp → VK → Prop := fun xs H Q => ∃ p ys, xs = [.ref p] ∧ (SqL K H p ys ∨ SqT K H p ys) ∧ Q (.int ys.length) H
theorem lenK {X : Cx} {K : PySem.W.Frag} (e : X.K = K := by rfl) : CallR X (.builtin "len") (rLen K) := by cases e; exact call_len_seq
def rLstOf (K : PySem.W.Frag) : List V → Hp → VK → Prop := fun xs H Q => ∃ p ys, xs = [.ref p] ∧ (SqL K H p ys ∨ SqT K H p ys) ∧ ∀ l, H l = none → Q (.ref l) (upd H l (.lst ys))
theorem lstOfK {X : Cx} {K : PySem.W.Frag} (e : X.K = K := by rfl) : CallR X (.type "list") (rLstOf K) := by cases e; exact call_list_of
def rTupOf (K : PySem.W.Frag) : List V → Hp → VK → Prop := fun xs H Q => ∃ p ys, xs = [.ref p] ∧ ((SqL K H p ys ∧ ∀ l, H l = none → Q (.ref l) (upd H l (.tup ys))) ∨ (SqT K H p ys ∧ Q (.ref p) H))
theorem tupOfK {X : Cx} {K : PySem.W.Frag} (e : X.K = K := by rfl) : CallR X (.type "tuple") (rTupOf K) := by cases e; exact call_tuple_of
theorem dec_ne {α : Type} [DecidableEq α] {a b : α} (h : a = b) : (!decide (a = b)) = false := by rw [decide_eq_true h] <;> rfl
end Toy
namespace Toy
open PySem PySem.Spec PyProof.Rows L2
/-- a tuple of the written part; a tuple that never changes -/
def KTup (K : PySem.W.Frag) (a : Addr) (xs : List V) : Prop := ∃ (o : Obj) (its : Array Value) (n : Nat), K.lookup a = some o ∧ o.cls = .type "tuple" ∧ o.data = .seq its n ∧ its.size ≤ sizeLine ∧ Vals xs its.toList
def TupAt (K : PySem.W.Frag) (H : Hp) (a : Addr) (xs : List V) : Prop := H a = some (.tup xs) ∨ KTup K a xs
theorem TupAt.sq {K : PySem.W.Frag} {H : Hp} {a : Addr} {xs : List V} (h : TupAt K H a xs) : SqT K H a xs := by
  rcases h with h | h
  · exact SqT.of h
  · exact .inr h
theorem TupAt.ty {K : PySem.W.Frag} {H : Hp} {a : Addr} {xs : List V} (h : TupAt K H a xs) : TyX K H (.ref a) (.type "tuple") := by
  rcases h with h | ⟨o, its, n, h1, h2, _⟩
  · exact .base (.tup h)
  · exact .kTuple h1 h2
theorem TupAt.same {K : PySem.W.Frag} {H H' : Hp} {a : Addr} {xs : List V} (e : Same H H') (h : TupAt K H a xs) : TupAt K H' a xs := h.imp (e _ _) id
theorem TupAt.but {K : PySem.W.Frag} {H H' : Hp} {a p : Addr} {xs ys : List V} (e : But p H H') (hp : H p = some (.lst ys)) (h : TupAt K H a xs) : TupAt K H' a xs := h.imp (fun h => e _ _ (ne_of h hp (by intro z; cases z)) h) id
end Toy
namespace Toy
open PySem PySem.Spec PyProof.Rows L2
theorem ints_dp {K : PySem.W.Frag} {H : Hp} : ∀ ns : List Int, DpAll K H (ns.map V.int) (ns.map PyData.int)
  | [] => .nil
  | n :: r => .cons (.int n) (ints_dp r)
theorem ints_sh (ns : List Int) : SeqAt.shaped (.list (ns.map PyData.int)) = true := PySem.W.ke_shaped_ints ns
theorem ints_refl (ns : List Int) : PyData.eqv (.list (ns.map PyData.int)) (.list (ns.map PyData.int)) = true := SeqAt.eqv_refl _ (SeqAt.canLay_of_shaped (ints_sh ns))
theorem lst_dp {K : PySem.W.Frag} {H : Hp} {a : Addr} {ns : List Int} (h : SqL K H a (ns.map V.int)) : Dp K H (.ref a) (.list (ns.map PyData.int)) := .lst h (ints_dp ns)
theorem tupI_dp {K : PySem.W.Frag} {H : Hp} {a : Addr} {ns : List Int} (h : SqT K H a (ns.map V.int)) : Dp K H (.ref a) (.tuple (ns.map PyData.int)) := .tup h (ints_dp ns)
theorem tupI_sh (ns : List Int) : SeqAt.shaped (.tuple (ns.map PyData.int)) = true := ints_sh ns
theorem tupI_refl (ns : List Int) : PyData.eqv (.tuple (ns.map PyData.int)) (.tuple (ns.map PyData.int)) = true := SeqAt.eqv_refl _ (SeqAt.canLay_of_shaped (tupI_sh ns))
theorem cut_map (us : List Int) (lo hi : Option Int) : ∃ ws : List Int, cutV (us.map V.int) lo hi = ws.map V.int ∧ ws.length ≤ us.length ∧ ∀ x ∈ ws, x ∈ us := by
  refine ⟨(us.drop (HT.sIx (us.map V.int).length 0 lo)).take (HT.sIx (us.map V.int).length (us.map V.int).length hi - HT.sIx (us.map V.int).length 0 lo), ?_, ?_, fun x hx => List.mem_of_mem_drop (List.mem_of_mem_take hx)⟩
  · unfold cutV; rw [List.map_take, List.map_drop]
  · rw [List.length_take, List.length_drop]; omega
theorem at_map {us : List Int} {i : Nat} {y : V} (h : (us.map V.int)[i]? = some y) : ∃ x : Int, y = .int x ∧ us[i]? = some x := by
  rw [List.getElem?_map] at h
  cases e : us[i]? with
  | none => rw [e] at h; cases h
  | some x => rw [e] at h; exact ⟨x, (Option.some.inj h).symm, rfl⟩
end Toy
namespace Toy
open PySem PySem.Spec PyProof.Rows L2
/-- the heap in which the script alone stands, unless the text's own part holds it -/
def scriptH (K : PySem.W.Frag) (a : Addr) (o : Obj) (ns : List Int) : Hp := fun c => if (K.lookup a).isNone = true ∧ c = a then some (.frz o (.lst (ns.map V.int))) else none
theorem scriptH_none {K : PySem.W.Frag} {a b : Addr} {o : Obj} {ns : List Int} : scriptH K a o ns b = none ∨ (b = a ∧ K.lookup a = none ∧ scriptH K a o ns b = some (.frz o (.lst (ns.map V.int)))) := by
  unfold scriptH
  by_cases c : (K.lookup a).isNone = true ∧ b = a
  · exact .inr ⟨c.2, Option.isNone_iff_eq_none.mp c.1, if_pos c⟩
  · exact .inl (if_neg c)
theorem law_G {P : Program} {w : World} {K : PySem.W.Frag} {mg mb : Str → Option Value} {k : Nat} {fa a : Addr} {fd : FuncData} {x : Str} {sp : Sp} {s : Shared} {vs : List Value} {ns : List Int}
    (KX : K.In s.heap) (hns : s.heap.Ns mainGlobals mg) (hb : s.heap.Ns builtinsNs mb) (hbb : ∀ x : Str, x ≠ "__name__" → mb x = bootBuiltins x) (hlim : s.heap.NoLimit) (hg : s.gens = #[])
    (ha : s.heap.get? a = some { cls := .type "list", data := .seq vs.toArray }) (hi : IntsAre vs ns) (hl : ns.length ≤ sizeLine) (hr : Room k PySem.callerA)
    (F : ∀ base : Heap, K.In base → base.Ns mainGlobals mg → FnG P w K mg base CX0 k fa fd [x] sp) (hbind : ∀ (s : Shared) (u : Value), BindsTo s fd ⟨[u], []⟩ [(x, u)])
    (hsp : ∀ H : Hp, SqL K H a (ns.map V.int) → sp [.ref a] H (fun v _ => v = .bl true) fun _ _ _ => False) :
    codeAny (model P w) PySem.callerA (.call (.ref fa) ⟨[.ref a], []⟩) (fun r s' => r = .ok (.ret (.bool true)) ∧ OldK s.heap s'.heap ∧ s'.os = s.os ∧ AllBare s'.gens) s := by
  let H : Hp := scriptH K a { cls := .type "list", data := .seq vs.toArray } ns
  have hH : ∀ b, H b = none ∨ (b = a ∧ K.lookup a = none ∧ H b = some (.frz { cls := .type "list", data := .seq vs.toArray } (.lst (ns.map V.int)))) := fun b => scriptH_none
  have rv := vals_ints hi
  have hok : HOk P w H s.heap := by
    intro b u e
    rcases hH b with z | ⟨rfl, _, z⟩
    · rw [z] at e; cases e
    · rw [z] at e
      cases e
      exact ⟨ha, by rw [List.length_map]; exact hl, vs, _, rv, ha⟩
  have hS : SqL K H a (ns.map V.int) := by
    cases q : K.lookup a with
    | none => exact .inl (.inr ⟨_, show scriptH K a _ ns a = _ from if_pos ⟨by rw [q] <;> rfl, rfl⟩⟩)
    | some o =>
      have e := KX a o q
      rw [ha] at e
      cases e
      exact .inr ⟨_, vs.toArray, _, q, rfl, rfl, rfl, by rw [List.size_toArray, hi.length]; exact hl, by simpa using rv⟩
  -- what is no list is not the script
  have notA : ∀ {b : Addr} {o : Obj} {es : Array DictEntry} {ep : Nat}, s.heap.get? b = some o → o.data = .dict es ep → H b = none := by
    intro b o es ep e d
    rcases hH b with z | ⟨rfl, _, _⟩
    · exact z
    · rw [ha] at e
      cases e
      cases (show Data.seq vs.toArray _ = Data.dict es ep from d)
  have ns' : ∀ {b : Addr} {m : Str → Option Value}, s.heap.Ns b m → (hidT s.heap H).Ns b m := by
    rintro b m ⟨o, es, ep, e, d, r⟩
    exact ⟨o, es, ep, hidT_get e (notA e d), d, r⟩
  have kin' : K.In (hidT s.heap H) := by
    intro b o e
    refine hidT_get (KX b o e) ?_
    rcases hH b with z | ⟨rfl, q, _⟩
    · exact z
    · rw [q] at e; cases e
  have md : Mod K mg (hidT s.heap H) := ⟨kin', ns' hns, ⟨mb, ns' hb, hbb⟩, hlim.imp fun _ z => ⟨ns' z.1, z.2⟩⟩
  have e0 : Env0 P w K mg (hidT s.heap H) PySem.callerA [] s H := ⟨rfl, md, fun _ _ z => of_hidT z, Nat.le_of_eq (hidT_size _ _), trivial, (by intro b z; cases z), hok, .of_eq hg⟩
  refine codeAny_mono ((F _ kin' (ns' hns)).go (us := [.ref a]) (vs := [.ref a]) ⟨hr, rfl⟩ e0 (hbind s (.ref a)) (.cons rfl .nil) (hsp H hS)) ?_
  rintro (e | fl) s' q
  · exact q.elim
  match fl, q with
  | .ret u, ⟨v, H', os, bare, un, ok', r', q⟩ =>
    have q' : v = .bl true := q
    subst q'
    obtain rfl : u = Value.bool true := r'
    refine ⟨rfl, OldK.of_keep fun b o e => ?_, os, bare⟩
    rcases hH b with z | ⟨_, _, z⟩
    · exact un.keep b o e z (by intro y; cases y) (by intro y; cases y)
    · have z1 := (hok b _ z).1
      have z2 := (ok' b _ (un.frzs b _ _ z)).1
      rw [e] at z1
      cases z1
      exact z2
theorem walk_G {l : PySem.W.OpenLaw} {n k : Nat} {q : Program} {loose : List Str} {XP : (Str → Option Value) → Heap → Prop} {YP : World → Heap → Prop} {d : DefRec} {K : Params → PySem.W.Frag} {sp : PySem.W.Frag → Sp} {x : Str}
    (hn : l.most = some n) (hn2 : n ≤ sizeLine) (hdf : d.params.defaults = []) (hr : Room k PySem.callerA) (hY : ∀ (w : World) (h : Heap), YP w h → (K w.params).In h)
    (F : ∀ (w : World) (mg : Str → Option Value) (fa : Addr) (h : Heap), (K w.params).In h → h.Ns mainGlobals mg → mg d.name = some (.ref fa) →
      ∃ fd : FuncData, (∀ (s : Shared) (u : Value), BindsTo s fd ⟨[u], []⟩ [(x, u)]) ∧ ∀ base : Heap, (K w.params).In base → base.Ns mainGlobals mg → FnG l.prog w (K w.params) mg base CX0 k fa fd [x] (sp (K w.params)))
    (hsp : ∀ (K : PySem.W.Frag) (H : Hp) (a : Addr) (ns : List Int), ns.length ≤ n → SqL K H a (ns.map V.int) → sp K [.ref a] H (fun v _ => v = .bl true) fun _ _ _ => False) :
    PySem.W.WalkO q loose XP YP l.row.toRowW d [] (fun f vs => PySem.call f vs) :=
  Att.attach_call hn hdf fun w s0 s1 mg mb fa o pm cd doc a vs ns G Y ho hd hcd hmg hobj hints hlen hg => by
    have KX := hY w _ Y
    obtain ⟨fd, hbd, hF⟩ := F w mg fa _ KX G.T.g hmg
    exact law_G KX G.T.g G.T.b G.T.builtins G.T.nolimit hg hobj hints (Nat.le_trans hlen hn2) hr hF hbd fun H hS => hsp _ H a ns hlen hS
end Toy
namespace Toy
open PySem PySem.Spec PyProof.Rows L2
/-! ### how long a shown datum is -/
mutual
def cst : PyData → Nat
  | .none => 5
  | .bool _ => 5
  | .int _ => 1921
  | .str x => (reprText x).length
  | .list xs => csts xs + 4
  | .tuple xs => csts xs + 4
  | .dict _ => 0
def csts : List PyData → Nat
  | [] => 0
  | x :: xs => cst x + 4 + csts xs
end
theorem tupT_len (ts : List Str) : (tupleText ts).length ≤ piled ts + 4 := by
  unfold tupleText
  rw [strLen_append, strLen_append]
  have e1 : ((("(" : String) : Str)).length = 1 := rfl
  have e3 : (((if ts.length == 1 then ",)" else ")" : String) : Str)).length ≤ 2 := by split <;> decide +kernel
  by_cases h : ts = []
  · subst h; decide +kernel
  · have := join_length_add ts h; omega
theorem txtFrom_len : ∀ (ts : List Str) (k : Nat) (acc : Str), (textFrom k acc ts).length ≤ acc.length + piled ts
  | [], k, acc => Nat.le_add_right _ _
  | t :: r, k, acc => by
    have h := txtFrom_len r (k + 1) (acc ++ (if k > 0 then ", " else "" : String) ++ t)
    have e : (acc ++ (if k > 0 then ", " else "" : String) ++ t).length = acc.length + (if k > 0 then 2 else 0) + t.length := by
      rw [strLen_append, strLen_append]
      split <;> rfl
    rw [e] at h
    rw [piled_cons]
    have h2 : (textFrom k acc (t :: r)).length = (textFrom (k + 1) (acc ++ (if k > 0 then ", " else "" : String) ++ t) r).length := rfl
    rw [h2]
    have e2 : (if k > 0 then 2 else 0) ≤ 2 := by split <;> omega
    omega
theorem lstT_len (ts : List Str) : (listText ts).length ≤ piled ts + 4 := by
  unfold listText
  rw [strLen_append]
  have h := txtFrom_len ts 0 "["
  have e1 : ((("[" : String) : Str)).length = 1 := rfl
  have e2 : ((("]" : String) : Str)).length = 1 := rfl
  omega
mutual
theorem shown_le : ∀ d : PyData, d.showable = true → d.hasDict = false → d.shown.length ≤ cst d
  | .none, _, _ => by show (("None" : String) : Str).length ≤ 5; decide +kernel
  | .bool b, _, _ => by cases b <;> (show _ ≤ 5; decide +kernel)
  | .int i, h, _ => PyProof.Rows.int_text_len_1921 (of_decide_eq_true (by simpa [PyData.showable] using h))
  | .str x, _, _ => Nat.le_refl _
  | .list ds, h, g => by
    have h1 := showns_le ds (by simpa [PyData.showable] using h) (by simpa [PyData.hasDict] using g)
    have h2 := lstT_len (PyData.shownAll ds)
    show (listText (PyData.shownAll ds)).length ≤ csts ds + 4
    omega
  | .tuple ds, h, g => by
    have h1 := showns_le ds (by simpa [PyData.showable] using h) (by simpa [PyData.hasDict] using g)
    have h2 := tupT_len (PyData.shownAll ds)
    show (tupleText (PyData.shownAll ds)).length ≤ csts ds + 4
    omega
  | .dict _, _, g => by simp [PyData.hasDict] at g
theorem showns_le : ∀ ds : List PyData, PyData.showableAll ds = true → PyData.hasDictAll ds = false → piled (PyData.shownAll ds) ≤ csts ds
  | [], _, _ => Nat.le_refl _
  | d :: ds, h, g => by
    have h1 := shown_le d (by simp [PyData.showableAll] at h; exact h.1) (by simp [PyData.hasDictAll] at g; exact g.1)
    have h2 := showns_le ds (by simp [PyData.showableAll] at h; exact h.2) (by simp [PyData.hasDictAll] at g; exact g.2)
    show piled (d.shown :: PyData.shownAll ds) ≤ _
    rw [piled_cons]
    show _ ≤ cst d + 4 + csts ds
    omega
end
theorem shown_sz {d : PyData} (h : d.showable = true) (g : d.hasDict = false) (c : cst d ≤ 10000000) : d.shown.length ≤ sizeLine :=
  Nat.le_trans (shown_le d h g) (Nat.le_trans c (by decide))
end Toy
namespace Toy
open PySem PySem.Spec PyProof.Rows L2
/-- a list of ints grown by a part of another one -/
theorem ext_cut {L z : Addr} {ws es : List Int} {lo hi : Option Int} {H : Hp} {R : VK} (hL : H L = some (.lst (ws.map V.int))) (hz : H z = some (.lst (cutV (es.map V.int) lo hi))) (hs : ws.length + es.length ≤ 1000)
    (q : ∀ us : List Int, us.length ≤ es.length → (∀ x ∈ us, x ∈ es) → R .non (upd H L (.lst ((ws ++ us).map V.int)))) : rExtend (.ref L) [.ref z] H R := by
  obtain ⟨us, e, h1, h2⟩ := cut_map es lo hi
  rw [e] at hz
  refine ⟨L, z, _, _, rfl, rfl, hL, hz, small (by rw [List.length_map, List.length_map]; omega), ?_⟩
  have := q us h1 h2
  rw [List.map_append] at this
  exact this
theorem rep_len {n : Nat} : ((List.replicate n true).map V.bl).length = n := by rw [List.length_map, List.length_replicate]
theorem rep_snoc {n : Nat} : (List.replicate n true).map V.bl ++ [V.bl true] = (List.replicate (n + 1) true).map V.bl := by rw [List.replicate_succ', List.map_append] <;> rfl
theorem rep_all (n : Nat) : (List.replicate n true).all id = true := by rw [List.all_eq_true]; intro x hx; rw [List.mem_replicate] at hx; exact hx.2
theorem ixn {n j : Nat} (hj : j < n) : ixN n (j : Int) = some j := by
  unfold ixN
  rw [if_pos (by omega), if_pos (by omega)]
  exact congrArg some (Int.toNat_natCast j)
theorem dec_self (a : V) : decide (a = a) = true := decide_eq_true rfl
end Toy
namespace Toy
open PySem PySem.Spec PyProof.Rows L2
/-- a comprehension within a comprehension -/
theorem relabel_kept {env : Env} : ∀ {names : List (Str × NameKind)} {x : Str}, names.lookup x = some .cell ∨ names.lookup x = some .free →
    (names.map fun (n, k) => if (k == NameKind.free && env.scope.kind == .function && env.kindOf n == some .cell) then (n, NameKind.cell) else (n, k)).lookup x = some .cell ∨
    (names.map fun (n, k) => if (k == NameKind.free && env.scope.kind == .function && env.kindOf n == some .cell) then (n, NameKind.cell) else (n, k)).lookup x = some .free
  | [], _, h => by simp at h
  | (n, k) :: r, x, h => by
    have ih := @relabel_kept env r x
    show List.lookup x ((if (k == NameKind.free && env.scope.kind == .function && env.kindOf n == some .cell) = true then (n, NameKind.cell) else (n, k)) :: _) = _ ∨ List.lookup x ((if (k == NameKind.free && env.scope.kind == .function && env.kindOf n == some .cell) = true then (n, NameKind.cell) else (n, k)) :: _) = _
    cases hx : x == n with
    | true =>
      simp only [List.lookup_cons, hx] at h
      by_cases hc : (k == NameKind.free && env.scope.kind == .function && env.kindOf n == some .cell) = true
      · rw [if_pos hc]; exact .inl (by simp [List.lookup_cons, hx])
      · rw [if_neg hc]; simp only [List.lookup_cons, hx]; exact h
    | false =>
      simp only [List.lookup_cons, hx] at h
      by_cases hc : (k == NameKind.free && env.scope.kind == .function && env.kindOf n == some .cell) = true
      · rw [if_pos hc]; simp only [List.lookup_cons, hx]; exact ih h
      · rw [if_neg hc]; simp only [List.lookup_cons, hx]; exact ih h
theorem blkOk_nest {X : Cx} {s : Shared} {H : Hp} {scope1 scope : Scope} {cl : List (Str × Addr)} {C : Addr} {env : Env} {fp : List Addr} {own : List (Str × Nat)} {N : List Str} (hN : X.N = N) (h : blkC N scope1 scope own = true) :
    BlkOk (X.blk s H scope1 (compEnvC scope1 cl C env) fp).N (X.blk s H scope1 (compEnvC scope1 cl C env) fp).env.scope scope own := by
  subst hN
  obtain ⟨h1, h2, h3, h4, h5⟩ := blkOk_by h
  exact ⟨h1, h2, h3, fun y hy e => relabel_kept (h4 y hy e), h5⟩
end Toy
namespace Toy
open PySem PySem.Spec PyProof.Rows L2
/-! ### own classes -/
/-- where a name's class stands -/
def cAt (mg : Str → Option Value) (x : Str) : Addr := match mg x with | some (.ref C) => C | _ => 0
theorem cAt_eq {mg : Str → Option Value} {x : Str} {C : Addr} (h : mg x = some (.ref C)) : cAt mg x = C := by unfold cAt; rw [h]
structure ClsF (K : PySem.W.Frag) (mg : Str → Option Value) (x : Str) (fs : List Str) : Prop where
  mg_ : mg x = some (.ref (cAt mg x))
  cl : Cls K (cAt mg x)
  no : ∀ f ∈ fs, NoAttr K (cAt mg x) f
theorem ClsF.of {K : PySem.W.Frag} {mg : Str → Option Value} {x : Str} {C : Addr} {fs : List Str} (m : mg x = some (.ref C)) (c : Cls K C) (n : ∀ f ∈ fs, NoAttr K C f) : ClsF K mg x fs := by
  have e := cAt_eq m
  exact ⟨by rw [e]; exact m, by rw [e]; exact c, by rw [e]; exact n⟩
/-- a method, by its class -/
structure DfM (K : PySem.W.Frag) (C : Addr) (m q : Str) (st : Stmt) (ps : List Str) : Prop where
  ex : ∃ f fd, Fun K m q st f fd ∧ Meth K C m f ∧ Binds K fd ps []
theorem DfM.of {K : PySem.W.Frag} {mg : Str → Option Value} {x m q : Str} {st : Stmt} {ps : List Str} {f C : Addr} {oc : Value} {od an : Option Addr} {osl : Array (Option Value)} {kV doc pm cdv ct : Value} (hC : mg x = some (.ref C))
    (a : PySem.W.findIn K (.ref C) m = some (some (.ref f))) (i : PySem.W.isFn K (.ref f) = true)
    (l : K.lookup f = some ⟨oc, od, .func (PySem.W.fnOf m q (defArgs st) (defBody st) (defScope st) .none kV doc pm an cdv ct), osl⟩) (c : PySem.W.codeIn K cdv q = true) (k : PySem.W.keepIn K (.ref f) = true)
    (h : ∀ (kV doc pm : Value) (an : Option Addr) (cdv ct : Value) (us : List Value), us.length = ps.length → bindArgs (PySem.W.fnOf m q (defArgs st) (defBody st) (defScope st) .none kV doc pm an cdv ct) ⟨us, []⟩ = pure (ps.zip us)) : DfM K (cAt mg x) m q st ps := by
  rw [cAt_eq hC]
  exact ⟨_, _, fun_mk l c k, ⟨a, i, k⟩, (fun_mk l c k).binds h⟩
structure DnM (P : Program) (w : World) (K : PySem.W.Frag) (mg : Str → Option Value) (base : Heap) (C : Addr) (k : Nat) (m : Str) (ps : List Str) (sp : Sp) : Prop where
  ex : ∃ f fd, FnG P w K mg base CX0 k f fd ps sp ∧ Meth K C m f ∧ Binds K fd ps []
theorem DfM.ok {P : Program} {w : World} {K : PySem.W.Frag} {mg : Str → Option Value} {base : Heap} {C : Addr} {m q : Str} {st : Stmt} {ps : List Str} {k : Nat} {sp : Sp} (D : DfM K C m q st ps)
    (h : ∀ f fd, Fun K m q st f fd → FnG P w K mg base CX0 k f fd ps sp) : DnM P w K mg base C k m ps sp := by
  obtain ⟨f, fd, F, mt, b⟩ := D.ex
  exact ⟨f, fd, h f fd F, mt, b⟩
/-- the maker of a class -/
structure DfI (K : PySem.W.Frag) (C : Addr) (q : Str) (st : Stmt) (ps : List Str) : Prop where
  ex : ∃ f fd, Fun K "__init__" q st f fd ∧ Mk K C f ∧ Binds K fd ps []
theorem DfI.of {K : PySem.W.Frag} {mg : Str → Option Value} {x q : Str} {st : Stmt} {ps : List Str} {f C : Addr} {oc : Value} {od an : Option Addr} {osl : Array (Option Value)} {kV doc pm cdv ct : Value} (hC : mg x = some (.ref C))
    (a : PySem.W.findIn K (.ref C) "__init__" = some (some (.ref f))) (i : PySem.W.isFn K (.ref f) = true)
    (l : K.lookup f = some ⟨oc, od, .func (PySem.W.fnOf "__init__" q (defArgs st) (defBody st) (defScope st) .none kV doc pm an cdv ct), osl⟩) (c : PySem.W.codeIn K cdv q = true) (k : PySem.W.keepIn K (.ref f) = true)
    (mk : PySem.W.makesIn K C = true) (kc : PySem.W.keepIn K (.ref C) = true)
    (h : ∀ (kV doc pm : Value) (an : Option Addr) (cdv ct : Value) (us : List Value), us.length = ps.length → bindArgs (PySem.W.fnOf "__init__" q (defArgs st) (defBody st) (defScope st) .none kV doc pm an cdv ct) ⟨us, []⟩ = pure (ps.zip us)) : DfI K (cAt mg x) q st ps := by
  rw [cAt_eq hC]
  exact ⟨_, _, fun_mk l c k, ⟨mk, a, i, kc⟩, (fun_mk l c k).binds h⟩
structure DnI (P : Program) (w : World) (K : PySem.W.Frag) (mg : Str → Option Value) (base : Heap) (C : Addr) (k : Nat) (ps : List Str) (sp : Sp) : Prop where
  ex : ∃ f fd, FnG P w K mg base CX0 k f fd ps sp ∧ Mk K C f ∧ Binds K fd ps []
theorem DfI.ok {P : Program} {w : World} {K : PySem.W.Frag} {mg : Str → Option Value} {base : Heap} {C : Addr} {q : Str} {st : Stmt} {ps : List Str} {k : Nat} {sp : Sp} (D : DfI K C q st ps)
    (h : ∀ f fd, Fun K "__init__" q st f fd → FnG P w K mg base CX0 k f fd ps sp) : DnI P w K mg base C k ps sp := by
  obtain ⟨f, fd, F, mt, b⟩ := D.ex
  exact ⟨f, fd, h f fd F, mt, b⟩
theorem RoomG.make {k : Nat} {A : Around} (r : RoomG (k + 1) A) (C : Addr) (us : List Value) (kw : List (Str × Value)) : RoomG k (A.under (.builtin "type.__call__" ⟨.ref C :: us, kw⟩)) :=
  ⟨r.room.make C us kw, r.idle⟩
section
variable {X : Cx} {k : Nat} {C : Addr} {ps : List Str} {sp : Sp} {x m : Str} {p pos apos : Pos} {e o : Expr} {es : List Expr} {ta : TE} {t : TA}
theorem pe_mG {pl : Sem Bool} (D : DnM X.prog X.w X.K X.mg X.base C k m ps sp) (c : Cls X.K C) (hr : RoomG k X.A) (he : PE X o ta) (ha : PA X (e :: es) t)
    (hst : starEach (e :: es) X.env = (false, eval e X.env) :: starEach es X.env := by rfl) (hpl : (backTo pos (starEach es X.env)).any (·.1) = false := by rfl)
    (ht : eval (.Call (.Attribute o m apos) (e :: es) [] pos) X.env = (do
      let ov ← eval o X.env
      standAt apos.atName
      let (f, first) ← holding [ov] (getMethod ov m pl)
      callWith pos f first (backTo pos (starEach (e :: es) X.env)) (backToKw pos (keywordEach [] X.env))) := by rfl) :
    PE X (.Call (.Attribute o m apos) (e :: es) [] pos) (tMeth C m sp [] E0 ta t) := by
  obtain ⟨f, fd, F, hm, hb⟩ := D.ex
  refine ⟨fun pins s σ H Q I h => ?_⟩
  refine PySem.W.methodCall_KW (pl := pl) (thn (he.run pins s σ H _ I h) fun u s1 ⟨x, H1, I1, rx, a, dx, fs, ex, ea, l, q⟩ => ?_) ht
  subst ex
  obtain rfl : u = Value.ref a := rx
  refine getmeth_ok I1 ea c hm l ?_
  refine PySem.W.callWith_K (first := [.ref a]) (h₀ := X.base) I.ok.mod.kin hm.kp (thn (ha.run pos pins s1 σ H1 _ I1 q) fun us s2 ⟨vs, H2, I2, r, q2⟩ => ⟨I2.kIn, ?_⟩) hst hpl
  have q' : sp (.ref a :: vs) H2 Q E0 := by
    have z : sp (.ref a :: (vs ++ [])) H2 Q E0 := q2
    rw [List.append_nil] at z
    exact z
  exact run_G (us := .ref a :: us) (vs := .ref a :: vs) F hr hb (fun _ _ z => z.elim) I2 (.cons rfl r) q'
theorem pe_mG0 {pl : Sem Bool} (D : DnM X.prog X.w X.K X.mg X.base C k m ps sp) (c : Cls X.K C) (hr : RoomG k X.A) (he : PE X o ta)
    (ht : eval (.Call (.Attribute o m apos) [] [] pos) X.env = (do
      let ov ← eval o X.env
      standAt apos.atName
      let (f, first) ← holding [ov] (getMethod ov m pl)
      callWith pos f first (backTo pos (starEach [] X.env)) (backToKw pos (keywordEach [] X.env))) := by rfl) :
    PE X (.Call (.Attribute o m apos) [] [] pos) (tMeth C m sp [] E0 ta tNil) := by
  obtain ⟨f, fd, F, hm, hb⟩ := D.ex
  refine ⟨fun pins s σ H Q I h => ?_⟩
  refine PySem.W.methodCall_KW (pl := pl) (thn (he.run pins s σ H _ I h) fun u s1 ⟨x, H1, I1, rx, a, dx, fs, ex, ea, l, q⟩ => ?_) ht
  subst ex
  obtain rfl : u = Value.ref a := rx
  refine getmeth_ok I1 ea c hm l ?_
  exact PySem.W.callWith_K0 (first := [.ref a]) I1.kIn hm.kp (run_G (us := [.ref a]) (vs := [.ref a]) F hr hb (fun _ _ z => z.elim) I1 (.cons rfl .nil) q)
theorem run_mkG {pins : List (Addr × Obj)} {σ : L2.St} {H : Hp} {s : Shared} {Q : VK} {us : List Value} {vs : List V} {f : Addr} {fd : FuncData} (M : Mk X.K C f) (F : FnG X.prog X.w X.K X.mg X.base CX0 k f fd ps sp) (hr : RoomG (k + 1) X.A) (hb : Binds X.K fd ps [])
    (I : Inv X pins σ H s) (r : Vals vs us)
    (h : ∀ x dx, H x = none → H dx = none → dx ≠ x → sp (.ref x :: vs) (upd (upd H dx (.own x)) x (.ins C dx [])) (fun v H2 => v = .non ∧ Q (.ref x) H2) E0) :
    wpAny (model X.prog X.w) X.A (call (.ref C) us) (EP X pins σ Q) X.xe s := by
  have hq := h (s.heap.objs.size + 1) s.heap.objs.size (I.hok.fresh (Nat.le_succ _)) (I.hok.fresh (Nat.le_refl _)) (Nat.ne_of_lt (Nat.lt_succ_self _))
  have I2 := Inv.made (C := C) I
  have r2 : Vals (V.ref (s.heap.objs.size + 1) :: vs) (Value.ref (s.heap.objs.size + 1) :: us) := .cons rfl r
  have hl : (Value.ref (s.heap.objs.size + 1) :: us).length = ps.length := by
    rw [← r2.length]
    exact F.arity _ _ _ _ hq
  have b := hb { s with heap := _ } (Value.ref (s.heap.objs.size + 1) :: us) I2.kIn (by rw [List.append_nil]; exact hl)
  rw [List.append_nil] at b
  refine wpAny_call (make_map (f := f) I.kIn M.makes M.init (beq_iff_eq.mp M.fn) (codeAny_mono (F.go (hr.make C us []) (I2.env0.make C us []) b r2 hq) fun r s' hq' => ?_))
  cases r with
  | error e => exact hq'.elim
  | ok fl =>
    match fl, hq' with
    | .ret u, hq' =>
      obtain ⟨v, H', I3, rv, ev, q3⟩ := I2.after hq'
      subst ev
      exact ⟨rv, ⟨V.ref (s.heap.objs.size + 1), H', I3, rfl, q3⟩⟩
theorem pe_mkG (D : DnI X.prog X.w X.K X.mg X.base C k ps sp) (hr : RoomG (k + 1) X.A) (hg : Gl X x) (hm : X.mg x = some (.ref C)) (ha : PA X (e :: es) t) (hdb : (x == ("__debug__" : Str)) = false := by decide)
    (he : starEach (e :: es) X.env = (false, eval e X.env) :: starEach es X.env := by rfl) (hpl : (backTo pos (starEach es X.env)).any (·.1) = false := by rfl) :
    PE X (.Call (.Name x p) (e :: es) [] pos) (tMake C sp [] E0 t) := by
  obtain ⟨f, fd, F, M, hb⟩ := D.ex
  refine ⟨fun pins s σ H Q I h => ?_⟩
  refine wpAny_Call_Name_kw (ld_glob I hg hm ?_ hdb)
  refine PySem.W.callWith_K (h₀ := X.base) I.ok.mod.kin M.kp (thn (ha.run pos pins s σ H _ I h) fun us s1 ⟨vs, H1, I1, r, q⟩ => ⟨I1.kIn, ?_⟩) he hpl
  exact run_mkG M F hr hb I1 r fun x dx h1 h2 h3 => by
    have z := q x dx h1 h2 h3
    rw [List.append_nil] at z
    exact z
/-- o.f, as a target -/
def gFld (K : PySem.W.Frag) (to : TE) (f : Str) : TG := fun v σ H Q => to σ H fun x H1 => ∃ a C dx fs, x = .ref a ∧ H1 a = some (.ins C dx fs) ∧ Cls K C ∧ NoAttr K C f ∧ fs.length < 1000 ∧ Q σ (upd H1 a (.ins C dx (putF f v fs)))
theorem pg_fld {f : Str} {to : TE} (ho : PE X o to) : PG X (.Attribute o f pos) (gFld X.K to f) := by
  refine ⟨fun pins s σ H v u Q I r h => ?_⟩
  rw [assign_Attribute]
  refine wpAny_bind (wpAny_holding (thn (ho.run pins s σ H _ I h) fun ov s1 ⟨x, H1, I1, rx, a, C, dx, fs, ex, ea, c, n, l, q⟩ => ?_))
  subst ex
  obtain rfl : ov = Value.ref a := rx
  refine wpAny_bind (wpAny_standAt ?_)
  refine wpAny_bind (wpAny_holding (setattr_ok I1 ea c n l r fun s2 I2 => ?_))
  exact wpAny_release ⟨σ, _, I2, q⟩
end
end Toy
namespace Toy
open PySem PySem.Spec PyProof.Rows L2
theorem hp_same {H H' : Hp} {a : Addr} {o : HO} (s : Same H H') (h : H a = some o) : H' a = some o := s _ _ h
theorem hp_at {H H' : Hp} {a : Addr} {o : HO} (h : H a = some o) (s : Same H H') : H' a = some o := s _ _ h
theorem sql_at {K : PySem.W.Frag} {H H' : Hp} {p : Addr} {xs : List V} (h : SqL K H p xs) (s : Same H H') : SqL K H' p xs := s.seq h
theorem sqt_at {K : PySem.W.Frag} {H H' : Hp} {a : Addr} {xs : List V} (h : SqT K H a xs) (s : Same H H') : SqT K H' a xs := same_tup s h
theorem same_bk {H M H' : Hp} (b : Same M H') (a : Same H M) : Same H H' := a.trans b
theorem hp_new {H : Hp} {l a : Addr} {o u : HO} (n : H l = none) (h : H a = some o) : upd H l u a = some o := same_new n u _ _ h
theorem s1k : 1000 ≤ sizeLine := by decide
theorem lk1000 {n : Nat} (h : n ≤ 1000) : n ≤ sizeLine := Nat.le_trans h s1k
theorem lt1000 {n : Nat} (h : n < 1000) : n < sizeLine := Nat.lt_of_lt_of_le h s1k
theorem tyL {K : PySem.W.Frag} {H : Hp} {p : Addr} {xs : List V} (h : H p = some (.lst xs)) : tyV K "list" (.ref p) H := .inl ⟨rfl, xs, SqL.of h⟩
theorem sq_same {K : PySem.W.Frag} {H H' : Hp} {p : Addr} {xs : List V} (s : Same H H') (h : SqL K H p xs) : SqL K H' p xs := s.seq h
theorem newS {H H' : Hp} {l : Addr} {o : HO} (e : upd H l o = H') (n : H l = none) : Same H H' := e ▸ same_new n o
theorem newO {H H' : Hp} {l : Addr} {o : HO} (e : upd H l o = H') : H' l = some o := e ▸ upd_same
end Toy
namespace Toy
open PySem L2
def top (i : Nat) : Stmt := PySem.Challenge.pw_joinedasks_k28_whole_parted_and_exchange.main.body.getD i (.Pass ⟨0, 0, 0, 0⟩)
abbrev s_is_whole : Stmt := top 6
theorem sc_is_whole : FnScope ["thing"] ["thing"] (defScope s_is_whole) := ⟨rfl, rfl, rfl, by decide +kernel, rfl, by decide +kernel, by decide +kernel⟩
abbrev s_is_row_of : Stmt := top 7
theorem sc_is_row_of : FnScope ["thing", "many"] ["thing", "many"] (defScope s_is_row_of) := ⟨rfl, rfl, rfl, by decide +kernel, rfl, by decide +kernel, by decide +kernel⟩
abbrev s_is_end : Stmt := top 10
theorem sc_is_end : FnScope ["thing"] ["thing"] (defScope s_is_end) := ⟨rfl, rfl, rfl, by decide +kernel, rfl, by decide +kernel, by decide +kernel⟩
abbrev s_is_deed : Stmt := top 11
theorem sc_is_deed : FnScope ["thing", "add", "low", "high"] ["thing"] (defScope s_is_deed) := ⟨rfl, rfl, rfl, by decide +kernel, rfl, by decide +kernel, by decide +kernel⟩
abbrev s_want_deed : Stmt := top 12
theorem sc_want_deed : FnScope ["thing"] ["thing"] (defScope s_want_deed) := ⟨rfl, rfl, rfl, by decide +kernel, rfl, by decide +kernel, by decide +kernel⟩
abbrev s_put_through : Stmt := top 13
theorem sc_put_through : FnScope ["deed", "value", "add", "low", "high", "found"] ["deed", "value"] (defScope s_put_through) := ⟨rfl, rfl, rfl, by decide +kernel, rfl, by decide +kernel, by decide +kernel⟩
abbrev s_whole_deed : Stmt := top 14
theorem sc_whole_deed : FnScope ["add", "low", "high"] ["add", "low", "high"] (defScope s_whole_deed) := ⟨rfl, rfl, rfl, by decide +kernel, rfl, by decide +kernel, by decide +kernel⟩
abbrev s_one_behind : Stmt := top 15
theorem sc_one_behind : FnScope ["one", "other", "low", "high"] ["one", "other"] (defScope s_one_behind) := ⟨rfl, rfl, rfl, by decide +kernel, rfl, by decide +kernel, by decide +kernel⟩
abbrev s_then : Stmt := top 16
theorem sc_then : FnScope ["one", "other"] ["one", "other"] (defScope s_then) := ⟨rfl, rfl, rfl, by decide +kernel, rfl, by decide +kernel, by decide +kernel⟩
abbrev s_is_board : Stmt := top 20
theorem sc_is_board : FnScope ["thing", "value"] ["thing"] (defScope s_is_board) := ⟨rfl, rfl, rfl, by decide +kernel, rfl, by decide +kernel, by decide +kernel⟩
abbrev s_want_board : Stmt := top 21
theorem sc_want_board : FnScope ["board"] ["board"] (defScope s_want_board) := ⟨rfl, rfl, rfl, by decide +kernel, rfl, by decide +kernel, by decide +kernel⟩
abbrev s_is_ask : Stmt := top 22
theorem sc_is_ask : FnScope ["board", "thing"] ["board", "thing"] (defScope s_is_ask) := ⟨rfl, rfl, rfl, by decide +kernel, rfl, by decide +kernel, by decide +kernel⟩
abbrev s_are_asks : Stmt := top 23
theorem sc_are_asks : FnScope ["board", "thing", "one"] ["board", "thing"] (defScope s_are_asks) := ⟨rfl, rfl, rfl, by decide +kernel, rfl, by decide +kernel, by decide +kernel⟩
abbrev s_want_asks : Stmt := top 24
theorem sc_want_asks : FnScope ["board", "asks"] ["board", "asks"] (defScope s_want_asks) := ⟨rfl, rfl, rfl, by decide +kernel, rfl, by decide +kernel, by decide +kernel⟩
abbrev s_played : Stmt := top 25
theorem sc_played : FnScope ["board", "asks", "values", "answers", "hand", "box", "deed"] ["board", "asks"] (defScope s_played) := ⟨rfl, rfl, rfl, by decide +kernel, rfl, by decide +kernel, by decide +kernel⟩
abbrev s_all_of : Stmt := top 26
theorem sc_all_of : FnScope ["board", "asks", "found", "hand", "box", "deed"] ["board", "asks"] (defScope s_all_of) := ⟨rfl, rfl, rfl, by decide +kernel, rfl, by decide +kernel, by decide +kernel⟩
abbrev s_ahead_of : Stmt := top 27
theorem sc_ahead_of : FnScope ["board", "asks", "made", "found", "hand", "box", "deed"] ["board", "asks"] (defScope s_ahead_of) := ⟨rfl, rfl, rfl, by decide +kernel, rfl, by decide +kernel, by decide +kernel⟩
abbrev s__law_pot : Stmt := top 29
theorem sc__law_pot : FnScope ["_law_script", "_law_k", "_law_primes", "_law_cell"] ["_law_script", "_law_k"] (defScope s__law_pot) := ⟨rfl, rfl, rfl, by decide +kernel, rfl, by decide +kernel, by decide +kernel⟩
abbrev s__law_draw : Stmt := top 30
theorem sc__law_draw : FnScope ["_law_pot_here", "_law_many", "_law_digit"] ["_law_pot_here", "_law_many"] (defScope s__law_draw) := ⟨rfl, rfl, rfl, by decide +kernel, rfl, by decide +kernel, by decide +kernel⟩
abbrev s__law_number : Stmt := top 31
theorem sc__law_number : FnScope ["_law_pot_here", "_law_choice", "_law_far", "_law_k"] ["_law_pot_here"] (defScope s__law_number) := ⟨rfl, rfl, rfl, by decide +kernel, rfl, by decide +kernel, by decide +kernel⟩
abbrev s__law_deed : Stmt := top 32
theorem sc__law_deed : FnScope ["_law_pot_here", "_law_choice", "_law_add", "_law_one", "_law_other"] ["_law_pot_here"] (defScope s__law_deed) := ⟨rfl, rfl, rfl, by decide +kernel, rfl, by decide +kernel, by decide +kernel⟩
abbrev s__law_board : Stmt := top 33
theorem sc__law_board : FnScope ["_law_pot_here", "_law_k"] ["_law_pot_here"] (defScope s__law_board) := ⟨rfl, rfl, rfl, by decide +kernel, rfl, by decide +kernel, by decide +kernel⟩
abbrev s__law_asks : Stmt := top 34
theorem sc__law_asks : FnScope ["_law_pot_here", "_law_board_here", "_law_most", "_law_many", "_law_near", "_law_found", "_law_k"] ["_law_pot_here", "_law_board_here", "_law_most"] (defScope s__law_asks) := ⟨rfl, rfl, rfl, by decide +kernel, rfl, by decide +kernel, by decide +kernel⟩
abbrev s__law_mixed : Stmt := top 35
theorem sc__law_mixed : FnScope ["_law_pot_here", "_law_many", "_law_found", "_law_k"] ["_law_pot_here", "_law_many"] (defScope s__law_mixed) := ⟨rfl, rfl, rfl, by decide +kernel, rfl, by decide +kernel, by decide +kernel⟩
abbrev s__law_parted : Stmt := top 36
theorem sc__law_parted : FnScope ["_law_board_here", "_law_asks_here", "_law_at", "_law_whole", "_law_first", "_law_second", "_law_ahead", "_law_made", "_law_later", "_law_box", "_law_own", "_law_alone", "_law_ask", "_law_deed_here", "_law_k"] ["_law_board_here", "_law_asks_here", "_law_at"] (defScope s__law_parted) := ⟨rfl, rfl, rfl, by decide +kernel, rfl, by decide +kernel, by decide +kernel⟩
abbrev s__law_neighbours : Stmt := top 37
theorem sc__law_neighbours : FnScope ["_law_pot_here", "_law_board_here", "_law_asks_here", "_law_answers", "_law_last", "_law_rows", "_law_turn", "_law_at", "_law_found", "_law_row"] ["_law_pot_here", "_law_board_here", "_law_asks_here"] (defScope s__law_neighbours) := ⟨rfl, rfl, rfl, by decide +kernel, rfl, by decide +kernel, by decide +kernel⟩
abbrev s__law_boxes : Stmt := top 38
theorem sc__law_boxes : FnScope ["_law_board_here", "_law_asks_here", "_law_mixed_here", "_law_answers", "_law_last", "_law_other", "_law_named", "_law_found", "_law_together", "_law_box", "_law_hand", "_law_deed_here"] ["_law_board_here", "_law_asks_here", "_law_mixed_here"] (defScope s__law_boxes) := ⟨rfl, rfl, rfl, by decide +kernel, rfl, by decide +kernel, by decide +kernel⟩
abbrev s__law_right : Stmt := top 39
theorem sc__law_right : FnScope ["_law_pot_here", "_law_board_here", "_law_asks_here", "_law_kept"] ["_law_pot_here"] (defScope s__law_right) := ⟨rfl, rfl, rfl, by decide +kernel, rfl, by decide +kernel, by decide +kernel⟩
abbrev s_law : Stmt := top 40
theorem sc_law : FnScope ["_law_script", "_law_k"] ["_law_script"] (defScope s_law) := ⟨rfl, rfl, rfl, by decide +kernel, rfl, by decide +kernel, by decide +kernel⟩
structure Bl (K : PySem.W.Frag) (mg : Str → Option Value) : Prop where
  all_ : mg "all" = none
  bool_ : mg "bool" = none
  enumerate_ : mg "enumerate" = none
  int_ : mg "int" = none
  isinstance_ : mg "isinstance" = none
  len_ : mg "len" = none
  list_ : mg "list" = none
  max_ : mg "max" = none
  min_ : mg "min" = none
  range_ : mg "range" = none
  repr_ : mg "repr" = none
  tuple_ : mg "tuple" = none
  zip_ : mg "zip" = none
  LOOK_ : ∃ a, mg "LOOK" = some (.ref a) ∧ KTup K a [.int 0, .non, .non]
  MOST_BOXES_ : ∃ t, mg "MOST_BOXES" = some (.int (16) t)
  HANDS_ : ∃ t, mg "HANDS" = some (.int (16) t)

/-! ### loops over any iterable: the forms one uses -/
theorem lc_it {I : It} {n : Nat} {g : TG} {tt : TT} {te : TE} {vs : List Nat} {σ : L2.St} {H1 : Hp} {D : Addr} {Qd : Hp → Prop} (Pv : Nat → Hp → Prop) (h0 : Pv 0 (upd H1 D (.lst [])))
    (hgo : ∀ i H, i < n → Pv i H → I.go i H) (hst : ∀ H, Pv n H → I.stop n H)
    (hs : ∀ i x H H', i < n → Pv i H → I.yld i H x H' → g x (wipe σ vs) H' fun σ2 H2 => wipe σ2 vs = wipe σ vs ∧ tt σ2 H2 fun b H3 =>
      if b = true then te σ2 H3 fun y H4 => ∃ acc, H4 D = some (.lst acc) ∧ acc.length < sizeLine ∧ Pv (i + 1) (upd H4 D (.lst (acc ++ [y]))) else Pv (i + 1) H3) (hd : ∀ H, Pv n H → Qd H) :
    ∃ W : Nat → Nat → Hp → Prop, (∃ m, W 0 m (upd H1 D (.lst []))) ∧ ∀ i m H, W i m H →
      (I.stop i H ∧ Qd H) ∨ (I.go i H ∧ ∃ Nx : Hp → Prop, (∀ H', Nx H' → ∃ m', m' < m ∧ W (i + 1) m' H') ∧ ∀ x H', I.yld i H x H' → g x (wipe σ vs) H' fun σ2 H2 => wipe σ2 vs = wipe σ vs ∧ tt σ2 H2 fun b H3 =>
        if b = true then te σ2 H3 fun y H4 => ∃ acc, H4 D = some (.lst acc) ∧ acc.length < sizeLine ∧ Nx (upd H4 D (.lst (acc ++ [y]))) else Nx H3) := by
  refine ⟨fun i m H => m = n - i ∧ i ≤ n ∧ Pv i H, ⟨n, by simp, Nat.zero_le _, h0⟩, ?_⟩
  rintro i m H ⟨rfl, hi, p⟩
  by_cases hlt : i < n
  · exact .inr ⟨hgo i H hlt p, Pv (i + 1), fun H' p' => ⟨n - (i + 1), by omega, rfl, hlt, p'⟩, fun x H' y => hs i x H H' hlt p y⟩
  · have e : i = n := by omega
    subst e
    exact .inl ⟨hst H p, hd H p⟩
theorem for_it {I : It} {n : Nat} {g : TG} {tb : TS} {D : Ends} {σ : L2.St} {H : Hp} (Pv : Nat → L2.St → Hp → Prop) (h0 : Pv 0 σ H)
    (hgo : ∀ i σ H, i < n → Pv i σ H → I.go i H) (hst : ∀ σ H, Pv n σ H → I.stop n H)
    (hs : ∀ i x σ H H', i < n → Pv i σ H → I.yld i H x H' → g x σ H' fun σ2 H2 => tb { D with nx := Pv (i + 1), ct := Pv (i + 1), bk := D.nx } σ2 H2) (hd : ∀ σ H, Pv n σ H → D.nx σ H) :
    ∃ W : Nat → Nat → L2.St → Hp → Prop, (∃ m, W 0 m σ H) ∧ ∀ i m σ H, W i m σ H →
      (I.stop i H ∧ D.nx σ H) ∨ (I.go i H ∧ ∃ N : L2.St → Hp → Prop, (∀ σ' H', N σ' H' → ∃ m', m' < m ∧ W (i + 1) m' σ' H') ∧ ∀ x H', I.yld i H x H' → g x σ H' fun σ2 H2 => tb { D with nx := N, ct := N, bk := D.nx } σ2 H2) := by
  refine ⟨fun i m σ H => m = n - i ∧ i ≤ n ∧ Pv i σ H, ⟨n, by simp, Nat.zero_le _, h0⟩, ?_⟩
  rintro i m σ H ⟨rfl, hi, p⟩
  by_cases hlt : i < n
  · exact .inr ⟨hgo i σ H hlt p, Pv (i + 1), fun σ' H' p' => ⟨n - (i + 1), by omega, rfl, hlt, p'⟩, fun x H' y => hs i x σ H H' hlt p y⟩
  · have e : i = n := by omega
    subst e
    exact .inl ⟨hst σ H p, hd σ H p⟩
/-- [.. for i, x in enumerate(xs)] -/
theorem lc_enum {K : PySem.W.Frag} {a : Addr} {xs : List V} {g : TG} {tt : TT} {te : TE} {vs : List Nat} {σ : L2.St} {H1 : Hp} {D : Addr} {Qd : Hp → Prop} (Pv : Nat → Hp → Prop) (h0 : Pv 0 (upd H1 D (.lst []))) (hl : ∀ i H, i ≤ xs.length → Pv i H → SqL K H a xs)
    (hs : ∀ (i : Nat) x (T : Addr) H, xs[i]? = some x → Pv i H → H T = none → g (.ref T) (wipe σ vs) (upd H T (.tup [.int i, x])) fun σ2 H2 => wipe σ2 vs = wipe σ vs ∧ tt σ2 H2 fun b H3 =>
      if b = true then te σ2 H3 fun y H4 => ∃ acc, H4 D = some (.lst acc) ∧ acc.length < sizeLine ∧ Pv (i + 1) (upd H4 D (.lst (acc ++ [y]))) else Pv (i + 1) H3) (hd : ∀ H, Pv xs.length H → Qd H) :
    ∃ W : Nat → Nat → Hp → Prop, (∃ m, W 0 m (upd H1 D (.lst []))) ∧ ∀ i m H, W i m H →
      ((Ite K a).stop i H ∧ Qd H) ∨ ((Ite K a).go i H ∧ ∃ Nx : Hp → Prop, (∀ H', Nx H' → ∃ m', m' < m ∧ W (i + 1) m' H') ∧ ∀ x H', (Ite K a).yld i H x H' → g x (wipe σ vs) H' fun σ2 H2 => wipe σ2 vs = wipe σ vs ∧ tt σ2 H2 fun b H3 =>
        if b = true then te σ2 H3 fun y H4 => ∃ acc, H4 D = some (.lst acc) ∧ acc.length < sizeLine ∧ Nx (upd H4 D (.lst (acc ++ [y]))) else Nx H3) := by
  refine lc_it (I := Ite K a) (n := xs.length) Pv h0 (fun i H hi p => ⟨xs, xs[i], hl i H (Nat.le_of_lt hi) p, List.getElem?_eq_getElem hi⟩) (fun H p => ⟨xs, hl _ H (Nat.le_refl _) p, Nat.le_refl _⟩) ?_ hd
  rintro i x H H' hi p ⟨T, z, rfl, hT, rfl, hz⟩
  exact hs i z T H (hz xs (hl i H (Nat.le_of_lt hi) p)) p hT
theorem for_enum' {K : PySem.W.Frag} {a : Addr} {xs : List V} {g : TG} {tb : TS} {D : Ends} {σ : L2.St} {H : Hp} (Pv : Nat → L2.St → Hp → Prop) (h0 : Pv 0 σ H) (hl : ∀ i σ H, i ≤ xs.length → Pv i σ H → SqL K H a xs)
    (hs : ∀ (i : Nat) x (T : Addr) σ H, xs[i]? = some x → Pv i σ H → H T = none → g (.ref T) σ (upd H T (.tup [.int i, x])) fun σ2 H2 => tb { D with nx := Pv (i + 1), ct := Pv (i + 1), bk := D.nx } σ2 H2) (hd : ∀ σ H, Pv xs.length σ H → D.nx σ H) :
    ∃ W : Nat → Nat → L2.St → Hp → Prop, (∃ m, W 0 m σ H) ∧ ∀ i m σ H, W i m σ H →
      ((Ite K a).stop i H ∧ D.nx σ H) ∨ ((Ite K a).go i H ∧ ∃ N : L2.St → Hp → Prop, (∀ σ' H', N σ' H' → ∃ m', m' < m ∧ W (i + 1) m' σ' H') ∧ ∀ x H', (Ite K a).yld i H x H' → g x σ H' fun σ2 H2 => tb { D with nx := N, ct := N, bk := D.nx } σ2 H2) := by
  refine for_it (I := Ite K a) (n := xs.length) Pv h0 (fun i σ H hi p => ⟨xs, xs[i], hl i σ H (Nat.le_of_lt hi) p, List.getElem?_eq_getElem hi⟩) (fun σ H p => ⟨xs, hl _ σ H (Nat.le_refl _) p, Nat.le_refl _⟩) ?_ hd
  rintro i x σ H H' hi p ⟨T, z, rfl, hT, rfl, hz⟩
  exact hs i z T σ H (hz xs (hl i σ H (Nat.le_of_lt hi) p)) p hT
/-- xs[i] of a list, as a value -/
theorem get_listI {X : Cx} : PGet X (rIxL X.K) := by
  intro pins s σ H o i ov iv Q I ro ri h
  obtain ⟨p, xs, k, z, rfl, rfl, hq, he, q⟩ := h
  cases ro
  obtain ⟨t, rfl⟩ := ri
  obtain ⟨its, r, pl, hz⟩ := I.list hq
  obtain ⟨j, h1, h2, h3, h4, h5⟩ := atI_get he
  obtain ⟨w, ew, rw'⟩ := r.get h2
  have hl := r.length
  have hn := line63
  have fin : EP X pins σ Q w s := ⟨z, H, I, rw', q⟩
  by_cases h0 : 0 ≤ k
  · have hj : k.toNat = j := by
      rw [seqIndex_of h0 h5] at h1
      exact Option.some.inj h1
    exact wpAny_getItem_list pl.isList h0 (by omega) (by rw [hj]; simpa using ew) fin
  · have hj : (k + (its.toArray.size : Int)).toNat = j := by
      rw [seqIndex_neg (by omega) h4] at h1
      rw [List.size_toArray, ← hl]
      exact Option.some.inj h1
    exact wpAny_getItem_list_neg pl.isList (by omega) (by rw [List.size_toArray] <;> omega) (by omega) (by rw [hj]; simpa using ew) fin
end Toy
/-! ### enumerate of a tuple -/
namespace PySem
open Sem (wp)
open AutoSeq1 (wpAny_loadPart')
theorem meets_enumerate_newTu (l : Addr) (items : Array Value) (n : Nat) (dct : Option Addr) (sl : Array (Option Value)) :
    Meets (Builtin.«enumerate.__new__» ⟨[.type "enumerate", .ref l], []⟩) (fun _ R s => s.heap.get? l = some { cls := .type "tuple", dict := dct, data := .seq items n, slots := sl } ∧
      R (.ok (.ret (.ref (s.heap.push { cls := .type "tuple_iterator", data := .fields #[.ref l, .int 0 0] }).objs.size)))
        { s with heap := (s.heap.push { cls := .type "tuple_iterator", data := .fields #[.ref l, .int 0 0] }).push { cls := .type "enumerate", data := .fields #[.none, .bool false, .ref s.heap.objs.size, rawInt 0, .none, .none] } }) :=
  .of_wp fun prog w A R s h => by
    obtain ⟨hp, g, d, tk, os⟩ := s; obtain ⟨hl, h⟩ := h
    have hsub := sub_enumerate
    have hL : Heap.IsTuple (Shared.heap ⟨hp, g, d, tk, os⟩) l items := ⟨_, hl, rfl, n, rfl⟩
    wp_walk using wpAny_loadPart' hl
    refine wpAny_stack_any fun st => wpAny_pure ?_
    split
    · rename_i c _ _ _ _ _
      cases (c == Value.type "enumerate")
      · wp_walk using wpAny_loadPart' hl, wpAny_pyIter_tuple hL
        exact ⟨_, rfl, h⟩
      · wp_walk using wpAny_loadPart' hl, wpAny_pyIter_tuple hL
        exact ⟨_, rfl, h⟩
    · wp_walk using wpAny_loadPart' hl, wpAny_pyIter_tuple hL
      exact ⟨_, rfl, h⟩
theorem call_enumerate_tup {prog : Program} {w : World} {A : Around} {E : Value → Shared → Prop} {s : Shared} {l : Addr} {items : Array Value} {Q : Value → Shared → Prop} (hL : s.heap.IsTuple l items)
    (h : ∀ h', IsEnum h' (s.heap.objs.size + 1) s.heap.objs.size 0 .none → h'.IsTupleIter s.heap.objs.size l 0 → h'.objs.size = s.heap.objs.size + 2 →
      (∀ b o, s.heap.get? b = some o → h'.get? b = some o) → Q (.ref (s.heap.objs.size + 1)) { s with heap := h' }) :
    wpAny (model prog w) A (call (.type "enumerate") [.ref l]) Q E s := by
  obtain ⟨⟨c, dct, dt, sl⟩, hl, hc, n, hd⟩ := hL
  replace hc : c = .type "tuple" := hc
  replace hd : dt = .seq items n := hd
  subst hc hd
  refine callType_new F.called_enumerate (by decide) (F.typeCall_enumerate_1 _) (F.newCall_enumerate_1 _) (fun obj => F.args_object_init_2 obj _) F.entry_enumerate_new
    (meets_enumerate_newTu l items n dct sl) ⟨hl, ?_⟩
  have hz : (s.heap.push { cls := .type "tuple_iterator", data := .fields #[.ref l, .int 0 0] }).objs.size = s.heap.objs.size + 1 := Heap.size_push ..
  show _ ∧ _
  rw [hz]
  have he : IsEnum ((s.heap.push { cls := .type "tuple_iterator", data := .fields #[.ref l, .int 0 0] }).push
      { cls := .type "enumerate", data := .fields #[.none, .bool false, .ref s.heap.objs.size, rawInt 0, .none, .none] }) (s.heap.objs.size + 1) s.heap.objs.size 0 .none := by
    have := Heap.get?_push_size (s.heap.push { cls := .type "tuple_iterator", data := .fields #[.ref l, .int 0 0] })
      (o := { cls := .type "enumerate", data := .fields #[.none, .bool false, .ref s.heap.objs.size, rawInt 0, .none, .none] }) rfl
    rw [hz] at this; exact this
  refine ⟨⟨_, he, rfl⟩, h _ he ⟨_, Heap.get?_push_of_some _ (Heap.get?_push_size _ rfl), rfl, rfl⟩ (by rw [Heap.size_push, hz]) fun b o x => Heap.get?_push_of_some _ (Heap.get?_push_of_some _ x)⟩
end PySem
namespace Toy
open PySem PySem.Spec PyProof.Rows L2
theorem tup_is {h : Heap} {a : Addr} {its : Array Value} (p : IsTup h a its) : h.IsTuple a its := p
/-- the tuple at a as it stands at each turn, each item in a new pair -/
def IteT (K : PySem.W.Frag) (a : Addr) : It :=
  ⟨fun i H => ∃ (xs : List V) (x : V), SqT K H a xs ∧ xs[i]? = some x, fun i H v H' => ∃ T x, v = .ref T ∧ H T = none ∧ H' = upd H T (.tup [.int (i : Nat), x]) ∧ ∀ xs, SqT K H a xs → xs[i]? = some x, fun i H => ∃ xs : List V, SqT K H a xs ∧ xs.length = i⟩
theorem turn_enumTu {P : Program} {w : World} {K : PySem.W.Frag} {elts : List Expr} {kk : Nat} {tpos : Pos} (a e it : Addr) (hai : a ≠ it) :
    Turn P w K (.Tuple elts kk tpos) (IteT K a) [e, it] e (fun i h => (∃ old, IsEnum h e it ((i : Nat) : Int) old) ∧ h.IsTupleIter it a i ∧ e ≠ it ∧ e ≠ a) where
  mem := by simp
  obj := fun i h st b hb => by
    obtain ⟨⟨old, he⟩, ⟨o, ho, hc, hd⟩, _⟩ := st
    have e' : b = e ∨ b = it := by simpa using hb
    rcases e' with z | z
    · rw [z]; exact ⟨_, he, fun v q => nomatch q⟩
    · rw [z]; exact ⟨o, ho, fun v q => by rw [hd] at q; cases q⟩
  keep := fun i h h' st k => let ⟨⟨old, he⟩, hi, hne⟩ := st; ⟨⟨old, k e (by simp) _ he⟩, hi.at fun o q => k it (by simp) o q, hne⟩
  item := by
    intro X hP hw hK hc i pins s σ H E I hf st hg
    subst hP hw hK
    obtain ⟨⟨old, he⟩, hit, hne, hea⟩ := st
    obtain ⟨xs, x, hq, hx⟩ := hg
    obtain ⟨its, rv, p, hz⟩ := I.tuple hq
    obtain ⟨u, hu, ru⟩ := rv.get hx
    have hel : e < s.heap.objs.size := Heap.lt_size he
    have hil : it < s.heap.objs.size := by obtain ⟨_, q, _⟩ := hit; exact Heap.lt_size q
    refine wpAny_pyNext_enum_itemD (Draws.tuple (show X.A.in1.handled = none from I.ok.hd hc) it a hai its.toArray) he ⟨hit, tup_is p⟩ (by have h1 := rv.length; have h2 := (List.getElem?_eq_some_iff.mp hx).1; rw [List.size_toArray]; omega) hne (by simp [hne, hea]) fun x' h' tk hP ho hst' hT hsz hk => ?_
    obtain ⟨hit', ht'⟩ := hst'
    have ex : x' = u := by
      have h1 : its[i]? = some x' := by simpa using hP
      rw [hu] at h1
      exact (Option.some.inj h1).symm
    subst ex
    refine ⟨_, rfl, wpAny_letOwnedTupleGo_enum (s := { s with heap := h', toks := tk + 1 }) ho fun h'' he' sb => ?_⟩
    have hT2 : h''.get? s.heap.objs.size = some { cls := .type "tuple", data := .seq #[.int i tk, x'] } := (sb.2 _ (Nat.ne_of_gt hel)).trans hT
    have new : ObjOk X.prog X.w (upd H s.heap.objs.size (.tup [.int (i : Nat), x])) h'' s.heap.objs.size (.tup [.int (i : Nat), x]) :=
      ⟨by show 2 ≤ sizeLine; decide, [.int i tk, x'], .cons ⟨_, rfl⟩ (.cons ru .nil), ⟨_, hT2, rfl, _, rfl⟩⟩
    have I1 : Inv X pins σ (upd H s.heap.objs.size (.tup [.int (i : Nat), x])) { s with heap := h'', toks := tk + 1 } :=
      I.turnedNew (ch := [e, it]) (fun b ob hb q => (sb.2 b (fun z => hb (by simp [z]))).trans (hk b ob (fun z => hb (by simp [z])) (fun z => hb (by simp [z])) q)) hf (Nat.le_refl _) new
    refine ⟨.ref s.heap.objs.size, _, I1, rfl, ⟨_, x, rfl, I.hok.fresh (Nat.le_refl _), rfl, fun ys hy => by rw [I.tuple_inj hy hq]; exact hx⟩, ⟨⟨x', ?_⟩, hit'.at fun o q => (sb.2 it (Ne.symm hne)).trans q, hne, hea⟩, fun b hb => ?_⟩
    · have e1 : ((i + 1 : Nat) : Int) = (i : Int) + 1 := by omega
      rw [e1]; exact he'
    · have hb' : b < s.heap.objs.size := by
        have e' : b = e ∨ b = it := by simpa using hb
        rcases e' with z | z
        · rw [z]; exact hel
        · rw [z]; exact hil
      rw [upd_ne (Nat.ne_of_lt hb')]
      exact (hf b hb).1
  done := by
    intro X hP hw hK hc i pins s σ H E I hf st hg
    subst hP hw hK
    obtain ⟨⟨old, he⟩, hit, hne, hea⟩ := st
    obtain ⟨xs, hq, hx⟩ := hg
    obtain ⟨its, rv, p, hz⟩ := I.tuple hq
    obtain ⟨f0, f1, f2, f3, f4, f5⟩ := hf it (by simp)
    have hl := rv.length
    have e2 : i = its.toArray.size := by rw [List.size_toArray]; omega
    rw [e2] at hit he
    exact wpAny_pyNext_enum_endD (Draws.tuple (show X.A.in1.handled = none from I.ok.hd hc) it a hai its.toArray) he ⟨hit, tup_is p⟩ fun h' eb => ⟨rfl, I.turned (t' := s.toks) (fun b o hb q => eb b o hb q) f0 f1 f3 f4 f5⟩
  self := fun A i s Q E st h => let ⟨⟨_, he⟩, _⟩ := st; wpAny_pyIter_enum he h
def iEnumT (K : PySem.W.Frag) (ta : TA) : TI := fun σ H R => ta σ H fun vs H1 => ∃ a xs, vs = [.ref a] ∧ SqT K H1 a xs ∧ R (IteT K a) H1
theorem pi_enumT {X : Cx} {e : Expr} {ta : TA} {p pos tpos : Pos} {elts : List Expr} {kk : Nat} (hg : Gl X "enumerate") (hm : X.mg "enumerate" = none) (ha : PA X [e] ta) (hs : starEach [e] X.env = [(false, eval e X.env)] := by rfl) :
    PI X (.Tuple elts kk tpos) (.Call (.Name "enumerate" p) [e] [] pos) (iEnumT X.K ta) := by
  refine ⟨fun pins s σ H R I h => ?_⟩
  refine Call_ (ld_blt I hg hm boot_enumerate (PyProof.Rows.callWith_type1 (thn (ha.run pos pins s σ H _ I h) fun us s1 ⟨vs, H1, I1, r1, q1⟩ => ?_) hs rfl))
  obtain ⟨a, xs, ex, hq, q⟩ := q1
  subst ex
  cases r1 with
  | cons r rr =>
    cases rr
    cases r
    obtain ⟨its, rv, p', hz⟩ := I1.tuple hq
    have hal : a < s1.heap.objs.size := by obtain ⟨o, ho, _⟩ := p'; exact Heap.lt_size ho
    refine call_enumerate_tup (tup_is p') fun h' he hit hsz hk => wpAny_pyIter_enum he ?_
    have I2 : Inv X pins σ H1 { s1 with heap := h' } := I1.kept (t' := s1.toks) hk
    refine ⟨s1.heap.objs.size + 1, [s1.heap.objs.size + 1, s1.heap.objs.size], _, _, H1, rfl, I2, turn_enumTu a (s1.heap.objs.size + 1) s1.heap.objs.size (Nat.ne_of_lt hal), ⟨⟨.none, he⟩, hit, Nat.succ_ne_self _, Nat.ne_of_gt (Nat.lt_succ_of_lt hal)⟩, fun b hb => ?_, q⟩
    have e' : b = s1.heap.objs.size + 1 ∨ b = s1.heap.objs.size := by simpa using hb
    have hle : s1.heap.objs.size ≤ b := by
      rcases e' with z | z
      · rw [z]; exact Nat.le_add_right _ _
      · rw [z]; exact Nat.le_refl _
    exact I1.fpOk hle (I1.hok.fresh hle)
theorem for_enumT {K : PySem.W.Frag} {a : Addr} {xs : List V} {g : TG} {tb : TS} {D : Ends} {σ : L2.St} {H : Hp} (Pv : Nat → L2.St → Hp → Prop) (h0 : Pv 0 σ H) (hl : ∀ i σ H, i ≤ xs.length → Pv i σ H → SqT K H a xs)
    (hs : ∀ (i : Nat) x (T : Addr) σ H, xs[i]? = some x → Pv i σ H → H T = none → g (.ref T) σ (upd H T (.tup [.int i, x])) fun σ2 H2 => tb { D with nx := Pv (i + 1), ct := Pv (i + 1), bk := D.nx } σ2 H2) (hd : ∀ σ H, Pv xs.length σ H → D.nx σ H) :
    ∃ W : Nat → Nat → L2.St → Hp → Prop, (∃ m, W 0 m σ H) ∧ ∀ i m σ H, W i m σ H →
      ((IteT K a).stop i H ∧ D.nx σ H) ∨ ((IteT K a).go i H ∧ ∃ N : L2.St → Hp → Prop, (∀ σ' H', N σ' H' → ∃ m', m' < m ∧ W (i + 1) m' σ' H') ∧ ∀ x H', (IteT K a).yld i H x H' → g x σ H' fun σ2 H2 => tb { D with nx := N, ct := N, bk := D.nx } σ2 H2) := by
  refine ⟨fun i m σ H => m = xs.length - i ∧ i ≤ xs.length ∧ Pv i σ H, ⟨xs.length, by simp, Nat.zero_le _, h0⟩, ?_⟩
  rintro i m σ H ⟨rfl, hi, p⟩
  have q := hl i σ H hi p
  by_cases hlt : i < xs.length
  · refine .inr ⟨⟨xs, xs[i], q, List.getElem?_eq_getElem hlt⟩, Pv (i + 1), fun σ' H' p' => ⟨xs.length - (i + 1), by omega, rfl, hlt, p'⟩, fun x H' y => ?_⟩
    obtain ⟨T, z, rfl, hT, rfl, hz⟩ := y
    exact hs i z T σ H (hz xs q) p hT
  · have e : i = xs.length := by omega
    subst e
    exact .inl ⟨⟨xs, q, rfl⟩, hd σ H p⟩
/-- [.. for x, y in zip(xs, ys)], two tuples -/
theorem lc_zipT {K : PySem.W.Frag} {a b : Addr} {xs ys : List V} {g : TG} {tt : TT} {te : TE} {vs : List Nat} {σ : L2.St} {H1 : Hp} {D : Addr} {Qd : Hp → Prop} (hl : xs.length = ys.length) (Pv : Nat → Hp → Prop) (h0 : Pv 0 (upd H1 D (.lst []))) (hq : ∀ i H, i ≤ xs.length → Pv i H → SqT K H a xs ∧ SqT K H b ys)
    (hs : ∀ (i : Nat) x y (T : Addr) H, xs[i]? = some x → ys[i]? = some y → Pv i H → H T = none → g (.ref T) (wipe σ vs) (upd H T (.tup [x, y])) fun σ2 H2 => wipe σ2 vs = wipe σ vs ∧ tt σ2 H2 fun b H3 =>
      if b = true then te σ2 H3 fun y H4 => ∃ acc, H4 D = some (.lst acc) ∧ acc.length < sizeLine ∧ Pv (i + 1) (upd H4 D (.lst (acc ++ [y]))) else Pv (i + 1) H3) (hd : ∀ H, Pv xs.length H → Qd H) :
    ∃ W : Nat → Nat → Hp → Prop, (∃ m, W 0 m (upd H1 D (.lst []))) ∧ ∀ i m H, W i m H →
      ((RZ.ItzT K a b).stop i H ∧ Qd H) ∨ ((RZ.ItzT K a b).go i H ∧ ∃ Nx : Hp → Prop, (∀ H', Nx H' → ∃ m', m' < m ∧ W (i + 1) m' H') ∧ ∀ x H', (RZ.ItzT K a b).yld i H x H' → g x (wipe σ vs) H' fun σ2 H2 => wipe σ2 vs = wipe σ vs ∧ tt σ2 H2 fun b H3 =>
        if b = true then te σ2 H3 fun y H4 => ∃ acc, H4 D = some (.lst acc) ∧ acc.length < sizeLine ∧ Nx (upd H4 D (.lst (acc ++ [y]))) else Nx H3) := by
  refine lc_it (I := RZ.ItzT K a b) (n := xs.length) Pv h0 (fun i H hi p => ?_) (fun H p => ?_) ?_ hd
  · obtain ⟨qx, qy⟩ := hq i H (Nat.le_of_lt hi) p
    exact ⟨xs, ys, _, _, qx, qy, List.getElem?_eq_getElem hi, List.getElem?_eq_getElem (by omega)⟩
  · obtain ⟨qx, qy⟩ := hq _ H (Nat.le_refl _) p
    exact ⟨xs, ys, qx, qy, .inl (Nat.le_refl _)⟩
  rintro i x H H' hi p ⟨T, z, w, rfl, hT, rfl, f1, f2⟩
  obtain ⟨qx, qy⟩ := hq i H (Nat.le_of_lt hi) p
  exact hs i z w T H (f1 xs qx) (f2 ys qy) p hT
/-- [.. for i, x in enumerate(t)], a tuple -/
theorem lc_enumT {K : PySem.W.Frag} {a : Addr} {xs : List V} {g : TG} {tt : TT} {te : TE} {vs : List Nat} {σ : L2.St} {H1 : Hp} {D : Addr} {Qd : Hp → Prop} (Pv : Nat → Hp → Prop) (h0 : Pv 0 (upd H1 D (.lst []))) (hl : ∀ i H, i ≤ xs.length → Pv i H → SqT K H a xs)
    (hs : ∀ (i : Nat) x (T : Addr) H, xs[i]? = some x → Pv i H → H T = none → g (.ref T) (wipe σ vs) (upd H T (.tup [.int i, x])) fun σ2 H2 => wipe σ2 vs = wipe σ vs ∧ tt σ2 H2 fun b H3 =>
      if b = true then te σ2 H3 fun y H4 => ∃ acc, H4 D = some (.lst acc) ∧ acc.length < sizeLine ∧ Pv (i + 1) (upd H4 D (.lst (acc ++ [y]))) else Pv (i + 1) H3) (hd : ∀ H, Pv xs.length H → Qd H) :
    ∃ W : Nat → Nat → Hp → Prop, (∃ m, W 0 m (upd H1 D (.lst []))) ∧ ∀ i m H, W i m H →
      ((IteT K a).stop i H ∧ Qd H) ∨ ((IteT K a).go i H ∧ ∃ Nx : Hp → Prop, (∀ H', Nx H' → ∃ m', m' < m ∧ W (i + 1) m' H') ∧ ∀ x H', (IteT K a).yld i H x H' → g x (wipe σ vs) H' fun σ2 H2 => wipe σ2 vs = wipe σ vs ∧ tt σ2 H2 fun b H3 =>
        if b = true then te σ2 H3 fun y H4 => ∃ acc, H4 D = some (.lst acc) ∧ acc.length < sizeLine ∧ Nx (upd H4 D (.lst (acc ++ [y]))) else Nx H3) := by
  refine lc_it (I := IteT K a) (n := xs.length) Pv h0 (fun i H hi p => ⟨xs, xs[i], hl i H (Nat.le_of_lt hi) p, List.getElem?_eq_getElem hi⟩) (fun H p => ⟨xs, hl _ H (Nat.le_refl _) p, rfl⟩) ?_ hd
  rintro i x H H' hi p ⟨T, z, rfl, hT, rfl, hz⟩
  exact hs i z T H (hz xs (hl i H (Nat.le_of_lt hi) p)) p hT
end Toy
/-! ### list(zip(xs, ys)), two lists -/
namespace PySem
theorem zip_no_len' : typeLookup (.type "zip") "__len__" = pure none := by rw [typeLookup_type, builtinLookup_eq_fast]; kernel_rfl
theorem zip_no_hint' : typeLookup (.type "zip") "__length_hint__" = pure none := by rw [typeLookup_type, builtinLookup_eq_fast]; kernel_rfl
end PySem
namespace Toy
open PySem PySem.Spec PyProof.Rows L2
open Sem (wp)
def zst (z TI TO i1 i2 l1 l2 S : Addr) (i : Nat) (h : Heap) : Prop := IsPair h TI (.ref i1) (.ref i2) ∧ h.IsListIter i1 l1 i ∧ h.IsListIter i2 l2 i ∧ (∃ oO, h.get? TO = some oO) ∧
  ((IsZip h z TI TO .none ∧ ∃ a b, IsPair h TO a b) ∨ ∃ T f oT, IsZipHeld h z TI TO T f ∧ h.get? T = some oT ∧ T ≠ z ∧ T ≠ i1 ∧ T ≠ i2 ∧ T ≠ S)
theorem zst.at {z TI TO i1 i2 l1 l2 S : Addr} {i : Nat} {h h' : Heap} (n : S ≠ z ∧ S ≠ TI ∧ S ≠ TO ∧ S ≠ i1 ∧ S ≠ i2) (k : ∀ b o, b ≠ S → h.get? b = some o → h'.get? b = some o) (st : zst z TI TO i1 i2 l1 l2 S i h) : zst z TI TO i1 i2 l1 l2 S i h' := by
  obtain ⟨nz, nTI, nTO, n1, n2⟩ := n
  obtain ⟨hTI, h1, h2, ⟨oO, hO⟩, hz⟩ := st
  refine ⟨k _ _ (Ne.symm nTI) hTI, h1.at fun o e => k _ o (Ne.symm n1) e, h2.at fun o e => k _ o (Ne.symm n2) e, ⟨oO, k _ _ (Ne.symm nTO) hO⟩, ?_⟩
  rcases hz with ⟨hz, a, b, hTO⟩ | ⟨T, f, oT, hz, hT, r1, r2, r3, r4⟩
  · exact .inl ⟨k _ _ (Ne.symm nz) hz, a, b, k _ _ (Ne.symm nTO) hTO⟩
  · exact .inr ⟨T, f, oT, k _ _ (Ne.symm nz) hz, k _ _ r4 hT, r1, r2, r3, r4⟩
def PairsAt (H : Hp) (ts : List Addr) (xs ys : List V) : Prop := ∀ (j : Nat) (t : Addr) (x y : V), ts[j]? = some t → xs[j]? = some x → ys[j]? = some y → H t = some (.tup [x, y])
theorem ext_zip {X : Cx} {pins : List (Addr × Obj)} {σ : L2.St} {z TI TO i1 i2 l1 l2 S : Addr} {A : Around} {R : Result → Shared → Prop} (hA : A.in1.handled = none) (D : ZipApart z TI TO i1 i2 l1 l2) {xs ys : List V} (hlen : xs.length = ys.length) (h1000 : xs.length ≤ 1000)
    (nS : S ≠ z ∧ S ≠ TI ∧ S ≠ TO ∧ S ≠ i1 ∧ S ≠ i2) (res : Value) (H0 : Hp) (hq : ∀ H', But S H0 H' → SqL X.K H' l1 xs ∧ SqL X.K H' l2 ys) :
    ∀ (k i : Nat) (s : Shared) (H : Hp) (ts : List Addr), xs.length - i = k → i ≤ xs.length → Inv X pins σ H s → (∀ b ∈ [z, TO, i1, i2], FpOk X pins H b) → zst z TI TO i1 i2 l1 l2 S i s.heap → But S H0 H →
    H S = some (.lst (ts.map V.ref)) → ts.length = i → PairsAt H ts xs ys →
    (∀ s' H' ts', Inv X pins σ H' s' → But S H0 H' → H' S = some (.lst (ts'.map V.ref)) → ts'.length = xs.length → PairsAt H' ts' xs ys → R (.ok (.ret res)) s') →
    codeAny (model X.prog X.w) A (.builtin "list.extend.loop" ⟨[.ref S, .ref z, res], []⟩) R s := by
  have hline : 1000 ≤ sizeLine := small (Nat.le_refl _)
  intro k
  induction k with
  | zero =>
    intro i s H ts hk hi I hf st hB hS hts hc hR
    have hin : i = xs.length := by omega
    obtain ⟨hTI, h1, h2, _, hz⟩ := st
    obtain ⟨q1, q2⟩ := hq H hB
    obtain ⟨its, rv, p1, _⟩ := I.list q1
    obtain ⟨its2, rv2, p2, _⟩ := I.list q2
    have l1' := rv.length
    have e1 : its.toArray[i]? = none := by simp; omega
    refine codeAny_builtin F.entry_extend_loop ?_
    rw [Around.under_plainId F.plain_extend_loop _]
    show wpAny _ A.in1 (pyNext (.ref z) >>= _) _ _ s
    refine wpAny_bind ?_
    have fin : ∀ h', (∀ c o, c ≠ z → c ≠ TO → c ≠ i1 → c ≠ i2 → s.heap.get? c = some o → h'.get? c = some o) → R (.ok (.ret res)) { s with heap := h' } := fun h' hk =>
      hR _ H ts (I.turnedL (t' := s.toks) (ch := [z, TO, i1, i2]) (fun c o hb q => hk c o (fun q' => hb (by simp [q'])) (fun q' => hb (by simp [q'])) (fun q' => hb (by simp [q'])) (fun q' => hb (by simp [q'])) q) hf) hB hS (by omega) hc
    rcases hz with ⟨hz, a, b, hTO⟩ | ⟨T, f, oT, hz, hT, r1, r2, r3, r4⟩
    · exact wpAny_pyNext_zip_end hA D hz hTI hTO h1 h2 p1.isList p2.isList (.inl e1) fun h' hk => wpAny_pure (fin h' hk)
    · exact wpAny_pyNext_zip_end_held hA D hz hT hTI h1 h2 p1.isList p2.isList (.inl e1) fun h' hk => wpAny_pure (fin h' fun c o c1 c2 c3 c4 e => hk c o c1 c3 c4 e)
  | succ k ih =>
    intro i s H ts hk hi I hf st hB hS hts hc hR
    have hlt : i < xs.length := by omega
    have hlt2 : i < ys.length := by omega
    obtain ⟨hTI, h1, h2, ⟨oO, hO⟩, hz⟩ := st
    obtain ⟨q1, q2⟩ := hq H hB
    obtain ⟨its, rv, p1, _⟩ := I.list q1
    obtain ⟨its2, rv2, p2, _⟩ := I.list q2
    obtain ⟨u, hu, ru⟩ := rv.get (List.getElem?_eq_getElem hlt)
    obtain ⟨u2, hu2, ru2⟩ := rv2.get (List.getElem?_eq_getElem hlt2)
    have lt : ∀ {c o}, s.heap.get? c = some o → s.heap.objs.size ≠ c := fun e => Nat.ne_of_gt (Heap.lt_size e)
    have n1 : s.heap.objs.size ≠ i1 := let ⟨_, e, _⟩ := h1; lt e
    have n2 : s.heap.objs.size ≠ i2 := let ⟨_, e, _⟩ := h2; lt e
    have nO : s.heap.objs.size ≠ TO := lt hO
    have hfr : H s.heap.objs.size = none := I.hok.fresh (Nat.le_refl _)
    have nNS : S ≠ s.heap.objs.size := ne_of_none hS hfr
    refine codeAny_builtin F.entry_extend_loop ?_
    rw [Around.under_plainId F.plain_extend_loop _]
    show wpAny _ A.in1 (pyNext (.ref z) >>= _) _ _ s
    refine wpAny_bind ?_
    have nz : s.heap.objs.size ≠ z := by
      rcases hz with ⟨hz, _⟩ | ⟨_, _, _, hz, _⟩
      · exact lt hz
      · exact lt hz
    -- one step on
    have on : ∀ h', IsPair h' s.heap.objs.size u u2 → (∀ c o, c ≠ z → c ≠ TO → c ≠ i1 → c ≠ i2 → s.heap.get? c = some o → h'.get? c = some o) → zst z TI TO i1 i2 l1 l2 S (i + 1) h' →
        wpAny (model X.prog X.w) A.in1 (updateSeq S (·.push (.ref s.heap.objs.size)) >>= fun _ => again (.builtin "list.extend.loop" ⟨[.ref S, .ref z, res], []⟩))
          (fun fin s' => match fin with | .done f => R (.ok f) s' | .again c' => c'.quiet = true ∧ codeAny (model X.prog X.w) A c' R s') (fun e s' => R (.error e) s') { s with heap := h' } := by
      intro h' a5 hk' st'
      have new : ObjOk X.prog X.w (upd H s.heap.objs.size (.tup [xs[i], ys[i]])) h' s.heap.objs.size (.tup [xs[i], ys[i]]) :=
        ⟨by show 2 ≤ sizeLine; decide, [u, u2], .cons ru (.cons ru2 .nil), ⟨_, a5, rfl, _, rfl⟩⟩
      have I1 : Inv X pins σ (upd H s.heap.objs.size (.tup [xs[i], ys[i]])) { s with heap := h' } :=
        I.turnedNew (t' := s.toks) (ch := [z, TO, i1, i2]) (fun c o hb q => hk' c o (fun q' => hb (by simp [q'])) (fun q' => hb (by simp [q'])) (fun q' => hb (by simp [q'])) (fun q' => hb (by simp [q'])) q) hf (Nat.le_refl _) new
      have hS1 : (upd H s.heap.objs.size (.tup [xs[i], ys[i]])) S = some (.lst (ts.map V.ref)) := by rw [upd_ne nNS]; exact hS
      obtain ⟨hz1, its3, n3, rv3, hl3, hS3⟩ := I1.lstM hS1
      have hl3' : its3.length = i := by rw [← hl3, List.length_map, hts]
      have I2 := I1.lset (f := (·.push (.ref s.heap.objs.size))) (ys := (ts ++ [s.heap.objs.size]).map V.ref) (its' := its3 ++ [.ref s.heap.objs.size]) (t' := s.toks) hS1 hS3 (by simp) (by rw [List.map_append]; exact rv3.append (.cons rfl .nil)) (by rw [List.length_map, List.length_append, hts]; show i + 1 ≤ sizeLine; omega)
      refine wpAny_bind ?_
      refine wpAny_updateSeq hS3 rfl (wpAny_pure ⟨plainId_quiet F.plain_extend_loop _, ih (i + 1) _ _ (ts ++ [s.heap.objs.size]) (by omega) hlt I2 (fun b hb => ?_) (st'.at nS fun b o hb e => (Heap.get?_update_other _ _ (Ne.symm hb)).trans e) ?_ upd_same (by rw [List.length_append, hts] <;> rfl) ?_ hR⟩) (by rw [List.size_toArray]; omega) (by simp; omega)
      · have h0 := hf b hb
        refine ⟨?_, h0.2⟩
        have nb : b ≠ s.heap.objs.size := by
          simp only [List.mem_cons, List.not_mem_nil, or_false] at hb
          rcases hb with rfl | rfl | rfl | rfl
          · exact Ne.symm nz
          · exact Ne.symm nO
          · exact Ne.symm n1
          · exact Ne.symm n2
        have nb2 : b ≠ S := by
          obtain ⟨m1, m2, m3, m4, m5⟩ := nS
          simp only [List.mem_cons, List.not_mem_nil, or_false] at hb
          rcases hb with rfl | rfl | rfl | rfl
          · exact Ne.symm m1
          · exact Ne.symm m3
          · exact Ne.symm m4
          · exact Ne.symm m5
        rw [upd_ne nb2, upd_ne nb]
        exact h0.1
      · exact fun c o hc e => by
          have e' := hB c o hc e
          rw [upd_ne hc, upd_ne (ne_of_none e' hfr)]
          exact e'
      · intro j t x y hj hx hy
        by_cases c : j < i
        · rw [List.getElem?_append_left (by omega)] at hj
          have h5 := hc j t x y hj hx hy
          have nt : t ≠ S := ne_of h5 hS (by intro w; cases w)
          rw [upd_ne nt, upd_ne (ne_of_none h5 hfr)]
          exact h5
        · have hj2 := (List.getElem?_eq_some_iff.mp hj).1
          rw [List.length_append] at hj2
          have hj3 : j < ts.length + 1 := hj2
          have : j = i := by omega
          subst this
          rw [List.getElem?_append_right (by omega), hts, Nat.sub_self] at hj
          cases (Option.some.inj hj)
          rw [List.getElem?_eq_getElem hlt] at hx
          rw [List.getElem?_eq_getElem hlt2] at hy
          cases (Option.some.inj hx)
          cases (Option.some.inj hy)
          rw [upd_ne (Ne.symm nNS), upd_same]
    rcases hz with ⟨hz, a, b, hTO⟩ | ⟨T, f, oT, hz, hT, r1, r2, r3, r4⟩
    · refine wpAny_pyNext_zip_item D hz hTI hTO h1 h2 p1.isList p2.isList (x := u) (y := u2) (by simpa using hu) (by simpa using hu2) fun h' a1 a2 a3 a4 a5 a6 hk' => ?_
      exact on h' a5 hk' ⟨hk' _ _ D.TIz D.TITO D.TIi1 D.TIi2 hTI, a3, a4, ⟨_, a2⟩, .inr ⟨s.heap.objs.size, false, _, a1, a5, nz, n1, n2, Ne.symm nNS⟩⟩
    · refine wpAny_pyNext_zip_item_held D hz hT hTI h1 h2 p1.isList p2.isList (x := u) (y := u2) (by simpa using hu) (by simpa using hu2) fun h' a1 a3 a4 a5 a6 hk' => ?_
      exact on h' a5 (fun c o c1 c2 c3 c4 e => hk' c o c1 c3 c4 e) ⟨hk' _ _ D.TIz D.TIi1 D.TIi2 hTI, a3, a4, ⟨oO, hk' _ _ D.TOz D.TOi1 D.TOi2 hO⟩, .inr ⟨T, true, oT, a1, hk' _ _ r1 r2 r3 hT, r1, r2, r3, r4⟩⟩
theorem list_of_zip {X : Cx} {pins : List (Addr × Obj)} {σ : L2.St} {H : Hp} {s : Shared} (I : Inv X pins σ H s) (hcalm : X.calm = true) {z TI TO i1 i2 l1 l2 : Addr} (D : ZipApart z TI TO i1 i2 l1 l2) {xs ys : List V} (hlen : xs.length = ys.length) (h1000 : xs.length ≤ 1000)
    (hz : IsZip s.heap z TI TO .none) (hTI : IsPair s.heap TI (.ref i1) (.ref i2)) (hTO : ∃ a b, IsPair s.heap TO a b) (h1 : s.heap.IsListIter i1 l1 0) (h2 : s.heap.IsListIter i2 l2 0)
    (hf : ∀ b ∈ [z, TO, i1, i2], FpOk X pins H b) (hq1 : SqL X.K H l1 xs) (hq2 : SqL X.K H l2 ys) {Q : VK}
    (q : ∀ S ts H2, Same H H2 → H S = none → H2 S = some (.lst (ts.map V.ref)) → ts.length = xs.length → PairsAt H2 ts xs ys → Q (.ref S) H2) :
    wpAny (model X.prog X.w) X.A (call (.type "list") [.ref z]) (EP X pins σ Q) X.xe s := by
  have hh : X.A.in1.in1.handled = none := show X.A.handled = none from I.ok.hd hcalm
  obtain ⟨a0, b0, hTO⟩ := hTO
  have nz : s.heap.objs.size ≠ z := Nat.ne_of_gt (Heap.lt_size hz)
  have nTI : s.heap.objs.size ≠ TI := Nat.ne_of_gt (Heap.lt_size hTI)
  have nTO : s.heap.objs.size ≠ TO := Nat.ne_of_gt (Heap.lt_size hTO)
  have n1 : s.heap.objs.size ≠ i1 := let ⟨_, e, _⟩ := h1; Nat.ne_of_gt (Heap.lt_size e)
  have n2 : s.heap.objs.size ≠ i2 := let ⟨_, e, _⟩ := h2; Nat.ne_of_gt (Heap.lt_size e)
  have hfr : H s.heap.objs.size = none := I.hok.fresh (Nat.le_refl _)
  refine callType_codes (Q₁ := fun obj s₁ => obj = .ref s.heap.objs.size ∧ s₁ = { s with heap := s.heap.push { cls := .type "list", data := .seq #[] } }) F.called_list (F.typeCall_list_1 _) F.entry_list_init
    (code_list_new _ ⟨rfl, rfl⟩) fun obj s₁ h₁ => ?_
  obtain ⟨rfl, rfl⟩ := h₁
  have hS : (s.heap.push { cls := .type "list", data := .seq #[] }).get? s.heap.objs.size = some { cls := .type "list", data := .seq #[] } := Heap.get?_push_size _ rfl
  refine ⟨⟨_, hS, rfl⟩, F.args_list_init_2 _ _, ?_⟩
  show wpAny _ X.A.in1.in1 (do let old ← Builtin.List.listItems (.ref s.heap.objs.size); Builtin.List.listUpdate (.ref s.heap.objs.size) (fun _ => #[]); letGo old.toList.reverse; Builtin.List.listExtendWith (.ref s.heap.objs.size) (.ref z) .none) _ _ _
  refine wpAny_bind ?_
  unfold Builtin.List.listItems
  refine wpAny_bind (wpAny_seqItems hS rfl (wpAny_pure ?_))
  show wpAny _ X.A.in1.in1 (updateSeq s.heap.objs.size (fun _ => #[]) >>= fun _ => letGo (#[] : Array Value).toList.reverse >>= fun _ => Builtin.List.listExtendWith (.ref s.heap.objs.size) (.ref z) .none) _ _ _
  refine wpAny_bind (wpAny_updateSeq hS rfl ?_)
  have hS₂ := Heap.get?_update_self (Obj.mapSeq (fun _ => (#[] : Array Value))) hS rfl
  have oth : ∀ b o, b ≠ s.heap.objs.size → s.heap.get? b = some o → ((s.heap.push { cls := .type "list", data := .seq #[] }).update s.heap.objs.size (Obj.mapSeq (fun _ => (#[] : Array Value)))).get? b = some o :=
    fun b o hb e => (Heap.get?_update_other _ _ (Ne.symm hb)).trans (Heap.get?_push_of_some _ e)
  refine wpAny_bind (wpAny_letGo ?_)
  generalize hh2 : (s.heap.push { cls := .type "list", data := .seq #[] }).update s.heap.objs.size (Obj.mapSeq (fun _ => (#[] : Array Value))) = hp2 at hS₂ oth
  unfold Builtin.List.listExtendWith
  refine wpAny_bind (wpAny_typeOf (T := "zip") ⟨_, oth _ _ (Ne.symm nz) hz, rfl⟩ ?_)
  have g1 : Builtin.List.listSameRef (.ref s.heap.objs.size) (.ref z) = false := by simp [Builtin.List.listSameRef, nz]
  have g2 : (Value.type "zip" == Value.type "list") = false := by decide
  have g3 : (Value.type "zip" == Value.type "tuple") = false := by decide
  simp only [g1, g2, g3, Bool.or_false, Bool.false_eq_true, if_false]
  refine wpAny_bind (wpAny_pyIter_zip (oth _ _ (Ne.symm nz) hz) ?_)
  refine wpAny_bind (wpAny_holding ?_)
  unfold Builtin.List.listLengthHint
  refine wpAny_bind (wpAny_specialOf (T := "zip") ⟨_, oth _ _ (Ne.symm nz) hz, rfl⟩ zip_no_len' ?_)
  show wpAny _ X.A.in1.in1 (specialOf (Value.ref z) (Str.ofString "__length_hint__") >>= _) _ _ _
  refine wpAny_bind (wpAny_specialOf (T := "zip") ⟨_, oth _ _ (Ne.symm nz) hz, rfl⟩ zip_no_hint' ?_)
  refine wpAny_pure ?_
  show wpAny _ X.A.in1.in1 (rule "list.extend.makes-room" >>= fun _ => Builtin.List.listTouch (.ref s.heap.objs.size) >>= fun _ =>
    again (.builtin "list.extend.loop" ⟨[.ref s.heap.objs.size, .ref z, .none], []⟩)) _ _ _
  refine wpAny_bind (wpAny_rule ?_)
  refine wpAny_bind ?_
  show wpAny _ X.A.in1.in1 (updateSeq s.heap.objs.size (·.push .none) >>= fun _ => updateSeq s.heap.objs.size (·.pop)) _ _ _
  refine wpAny_bind (wpAny_updateSeq hS₂ rfl ?_)
  have hS₃ := Heap.get?_update_self (Obj.mapSeq (·.push Value.none)) hS₂ rfl
  refine wpAny_updateSeq (hz := by seq_fits) hS₃ rfl ?_
  have hS₄ := Heap.get?_update_self (Obj.mapSeq (·.pop)) hS₃ rfl
  have oth2 : ∀ b o, b ≠ s.heap.objs.size → s.heap.get? b = some o → ((hp2.update s.heap.objs.size (Obj.mapSeq (·.push Value.none))).update s.heap.objs.size (Obj.mapSeq (·.pop))).get? b = some o :=
    fun b o hb e => (Heap.get?_update_other _ _ (Ne.symm hb)).trans ((Heap.get?_update_other _ _ (Ne.symm hb)).trans (oth b o hb e))
  have new : ObjOk X.prog X.w (upd H s.heap.objs.size (.lst [])) ((hp2.update s.heap.objs.size (Obj.mapSeq (·.push Value.none))).update s.heap.objs.size (Obj.mapSeq (·.pop))) s.heap.objs.size (.lst []) :=
    ⟨Nat.zero_le _, [], _, .nil, hS₄⟩
  have I1 : Inv X pins σ (upd H s.heap.objs.size (.lst [])) { s with heap := (hp2.update s.heap.objs.size (Obj.mapSeq (·.push Value.none))).update s.heap.objs.size (Obj.mapSeq (·.pop)) } :=
    I.laid (t' := s.toks) (fun b u e => oth2 b u (Nat.ne_of_lt (Heap.lt_size e)) e) (Nat.le_refl _) new
  have S1 := same_new hfr (.lst [])
  refine wpAny_pure ⟨plainId_quiet F.plain_extend_loop _, ext_zip (A := X.A.in1) (R := wants (fun r s₂ => r = Value.none ∧ EP X pins σ Q (Value.ref s.heap.objs.size) s₂) X.xe) hh D hlen h1000 ⟨nz, nTI, nTO, n1, n2⟩ .none (upd H s.heap.objs.size (.lst [])) (fun H' B' => ?_) (xs.length - 0) 0 _ _ [] rfl (Nat.zero_le _) I1 (fun b hb => ?_) ?_ But.refl upd_same rfl (fun j t x y hj => by simp at hj) fun s' H' ts' I' B' hS' hl' hp' => ⟨rfl, .ref s.heap.objs.size, H', I', rfl, q _ ts' H' (but_same hfr S1 B') hfr hS' hl' hp'⟩⟩
  · have S2 := but_same hfr S1 B'
    exact ⟨S2.seq hq1, S2.seq hq2⟩
  · have h0 := hf b hb
    refine ⟨?_, h0.2⟩
    have nb2 : b ≠ s.heap.objs.size := by
      simp only [List.mem_cons, List.not_mem_nil, or_false] at hb
      rcases hb with rfl | rfl | rfl | rfl
      · exact Ne.symm nz
      · exact Ne.symm nTO
      · exact Ne.symm n1
      · exact Ne.symm n2
    rw [upd_ne nb2]
    exact h0.1
  · exact ⟨oth2 _ _ (Ne.symm nTI) hTI, h1.at fun o e => oth2 _ o (Ne.symm n1) e, h2.at fun o e => oth2 _ o (Ne.symm n2) e, ⟨_, oth2 _ _ (Ne.symm nTO) hTO⟩, .inl ⟨oth2 _ _ (Ne.symm nz) hz, a0, b0, oth2 _ _ (Ne.symm nTO) hTO⟩⟩
def tListZip (K : PySem.W.Frag) (ta : TA) : TE := fun σ H Q => ta σ H fun vs H1 => ∃ a b xs ys, vs = [.ref a, .ref b] ∧ SqL K H1 a xs ∧ SqL K H1 b ys ∧ xs.length = ys.length ∧ xs.length ≤ 1000 ∧
  ∀ S ts H2, Same H1 H2 → H1 S = none → H2 S = some (.lst (ts.map V.ref)) → ts.length = xs.length → PairsAt H2 ts xs ys → Q (.ref S) H2
theorem pe_listZip {X : Cx} {e e2 : Expr} {ta : TA} {p p2 pos pos2 : Pos} (hc : X.calm = true) (hg0 : Gl X "list") (hm0 : X.mg "list" = none) (hg : Gl X "zip") (hm : X.mg "zip" = none) (ha : PA X [e, e2] ta)
    (hs : starEach [e, e2] X.env = (false, eval e X.env) :: starEach [e2] X.env := by rfl) (hpl : (backTo pos2 (starEach [e2] X.env)).any (·.1) = false := by rfl)
    (na : starEach [.Call (.Name "zip" p2) [e, e2] [] pos2] X.env = (false, eval (.Call (.Name "zip" p2) [e, e2] [] pos2) X.env) :: starEach [] X.env := by rfl) :
    PE X (.Call (.Name "list" p) [.Call (.Name "zip" p2) [e, e2] [] pos2] [] pos) (tListZip X.K ta) := by
  refine ⟨fun pins s σ H Q I h => ?_⟩
  refine Call_ (ld_blt I hg0 hm0 boot_list (PyProof.Rows.callWith_type1 (args_cons ?_ na) na))
  refine Call_ (ld_blt I hg hm PyProof.Rows.boot_zip (PyProof.Rows.callWith_type1 (thn (ha.run pos2 pins s σ H _ I h) fun us s1 ⟨vs, H1, I1, r1, q1⟩ => ?_) hs hpl))
  obtain ⟨a, b, xs, ys, ex, hqx, hqy, hl, h1000, q⟩ := q1
  subst ex
  cases r1 with
  | cons r rr =>
    cases rr with
    | cons r' rr =>
      cases rr
      cases r
      cases r'
      obtain ⟨its, rv, p1, _⟩ := I1.list hqx
      obtain ⟨its2, rv2, p2, _⟩ := I1.list hqy
      have la : a < s1.heap.objs.size := p1.lt
      have lb : b < s1.heap.objs.size := p2.lt
      refine call_zip_2 p1.isList p2.isList fun h' hz hTI hTO h1 h2 hsz hk => args_nil ?_
      have I2 : Inv X pins σ H1 { s1 with heap := h' } := I1.kept (t' := s1.toks) hk
      refine list_of_zip (s := { s1 with heap := h' }) I2 hc (PySem.W.ktu_apart s1.heap.objs.size a b la lb) hl h1000 hz hTI ⟨_, _, hTO⟩ h1 h2 (fun c hcm => ?_) hqx hqy q
      have e' : c = s1.heap.objs.size + 4 ∨ c = s1.heap.objs.size + 3 ∨ c = s1.heap.objs.size ∨ c = s1.heap.objs.size + 1 := by simpa using hcm
      have hle : s1.heap.objs.size ≤ c := by
        rcases e' with z | z | z | z
        · rw [z]; exact Nat.le_add_right _ _
        · rw [z]; exact Nat.le_add_right _ _
        · rw [z]; exact Nat.le_refl _
        · rw [z]; exact Nat.le_add_right _ _
      exact I1.fpOk hle (I1.hok.fresh hle)
end Toy
/-! ### list(zip(t, u)), two tuples -/
namespace PySem
theorem zip_no_lenT : typeLookup (.type "zip") "__len__" = pure none := by rw [typeLookup_type, builtinLookup_eq_fast]; kernel_rfl
theorem zip_no_hintT : typeLookup (.type "zip") "__length_hint__" = pure none := by rw [typeLookup_type, builtinLookup_eq_fast]; kernel_rfl
section
variable {prog : Program} {w : World} {A : Around} {E : Value → Shared → Prop} {s : Shared}
theorem zipT_heldItem {z TI TO T i1 i2 l1 l2 : Addr} {f : Bool} {oT : Obj} {k1 k2 : Nat} {xs ys : Array Value} {x y : Value} {Q : Value → Shared → Prop} (D : ZipApart z TI TO i1 i2 l1 l2)
    (hz : IsZipHeld s.heap z TI TO T f) (hT : s.heap.get? T = some oT) (hTI : IsPair s.heap TI (.ref i1) (.ref i2))
    (h1 : s.heap.IsTupleIter i1 l1 k1) (h2 : s.heap.IsTupleIter i2 l2 k2) (t1 : s.heap.IsTuple l1 xs) (t2 : s.heap.IsTuple l2 ys) (hx : xs[k1]? = some x) (hy : ys[k2]? = some y)
    (hQ : ∀ h', IsZipHeld h' z TI TO T true → h'.IsTupleIter i1 l1 (k1 + 1) → h'.IsTupleIter i2 l2 (k2 + 1) → IsPair h' s.heap.objs.size x y → h'.objs.size = s.heap.objs.size + 1 →
      (∀ c o, c ≠ z → c ≠ i1 → c ≠ i2 → s.heap.get? c = some o → h'.get? c = some o) → Q (.ref s.heap.objs.size) { s with heap := h' }) :
    wpAny (model prog w) A (Builtin.«zip.__next__» ⟨[.ref z], []⟩) (fun fin s' => ∃ v, fin = .done (.ret v) ∧ Q v s') E s := by
  show wpAny _ _ (field (.ref z) 2 >>= _) _ _ _
  refine wpAny_bind (wpAny_field hz rfl (x := .bool false) rfl ?_)
  show wpAny _ _ (field (.ref z) 3 >>= _) _ _ _
  refine wpAny_bind (wpAny_field hz rfl (x := .ref TI) rfl ?_)
  refine wpAny_bind (wpAny_seqItems hTI rfl ?_)
  show wpAny _ _ (Builtin.SmallTypes.ownedTupleIsFree (.ref z) >>= _) _ _ _
  refine wpAny_bind (wpAny_tupleHeld_zip hz hT fun g1 z1 e1 => ?_)
  refine wpAny_bind ?_
  simp only [List.forIn_cons, List.forIn_nil]
  refine wpAny_bind (wpAny_bind (wpAny_holding ?_))
  show wpAny _ _ (Builtin.SmallTypes.nextOf (.ref i1) >>= _) _ _ _
  refine wpAny_bind (RZ.nextOf_tuple_item (h1.extBut e1.extBut D.i1z) (t1.extBut e1.extBut D.l1z) hx fun g2 p2 e2 => wpAny_pure (wpAny_pure ?_))
  refine wpAny_bind (wpAny_bind (wpAny_holding ?_))
  show wpAny _ _ (Builtin.SmallTypes.nextOf (.ref i2) >>= _) _ _ _
  refine wpAny_bind (RZ.nextOf_tuple_item ((h2.extBut e1.extBut D.i2z).extBut e2.extBut D.i12.symm) ((t2.extBut e1.extBut D.l2z).extBut e2.extBut D.l2i1) hy fun g3 p3 e3 => wpAny_pure (wpAny_pure (wpAny_pure ?_)))
  refine wpAny_bind (wpAny_newTuple ?_ (by show 2 ≤ sizeLine; decide))
  have ez : g3.objs.size = s.heap.objs.size := by rw [e3.1, e2.1, e1.1]
  have kk : ∀ c o, c ≠ z → c ≠ i1 → c ≠ i2 → s.heap.get? c = some o → g3.get? c = some o := fun c o c1 c3 c4 e => e3.extBut _ _ c4 (e2.extBut _ _ c3 (e1.extBut _ _ c1 e))
  refine wpAny_pure ⟨_, rfl, ?_⟩
  simp only [ez]
  refine hQ _ (Heap.get?_push_of_some _ (e3.extBut _ _ D.i2z.symm (e2.extBut _ _ D.i1z.symm z1))) ((p2.extBut e3.extBut D.i12).at fun o e => Heap.get?_push_of_some _ e) (p3.at fun o e => Heap.get?_push_of_some _ e) ?_ (by rw [Heap.size_push, ez]) fun c o c1 c3 c4 e => Heap.get?_push_of_some _ (kk c o c1 c3 c4 e)
  rw [← ez]
  exact Heap.get?_push_size _ rfl
theorem zipT_heldEnd {z TI TO T i1 i2 l1 l2 : Addr} {f : Bool} {oT : Obj} {k1 k2 : Nat} {xs ys : Array Value} {Q : Fin → Shared → Prop} (hh : A.handled = none) (D : ZipApart z TI TO i1 i2 l1 l2)
    (hz : IsZipHeld s.heap z TI TO T f) (hT : s.heap.get? T = some oT) (hTI : IsPair s.heap TI (.ref i1) (.ref i2))
    (h1 : s.heap.IsTupleIter i1 l1 k1) (h2 : s.heap.IsTupleIter i2 l2 k2) (t1 : s.heap.IsTuple l1 xs) (t2 : s.heap.IsTuple l2 ys) (hend : xs[k1]? = none ∨ ys[k2]? = none)
    (hE : ∀ h' e, (∀ c o, c ≠ z → c ≠ i1 → c ≠ i2 → s.heap.get? c = some o → h'.get? c = some o) → (∃ o, h'.get? e = some o ∧ o.cls = .type "StopIteration") → E (.ref e) { s with heap := h' }) :
    wpAny (model prog w) A (Builtin.«zip.__next__» ⟨[.ref z], []⟩) Q E s := by
  show wpAny _ _ (field (.ref z) 2 >>= _) _ _ _
  refine wpAny_bind (wpAny_field hz rfl (x := .bool false) rfl ?_)
  show wpAny _ _ (field (.ref z) 3 >>= _) _ _ _
  refine wpAny_bind (wpAny_field hz rfl (x := .ref TI) rfl ?_)
  refine wpAny_bind (wpAny_seqItems hTI rfl ?_)
  show wpAny _ _ (Builtin.SmallTypes.ownedTupleIsFree (.ref z) >>= _) _ _ _
  refine wpAny_bind (wpAny_tupleHeld_zip hz hT fun g1 z1 e1 => ?_)
  refine wpAny_bind ?_
  simp only [List.forIn_cons, List.forIn_nil]
  refine wpAny_bind (wpAny_bind (wpAny_holding ?_))
  show wpAny _ _ (Builtin.SmallTypes.nextOf (.ref i1) >>= _) _ _ _
  cases hx : xs[k1]? with
  | none =>
    refine wpAny_bind (RZ.nextOf_tuple_end hh (h1.extBut e1.extBut D.i1z) (t1.extBut e1.extBut D.l1z) hx fun g2 e e2 he => ?_)
    exact hE g2 e (fun c o c1 c3 _ q => e2 _ _ c3 (e1.extBut _ _ c1 q)) he
  | some x =>
    have hy : ys[k2]? = none := by
      rcases hend with h | h
      · rw [hx] at h; cases h
      · exact h
    refine wpAny_bind (RZ.nextOf_tuple_item (h1.extBut e1.extBut D.i1z) (t1.extBut e1.extBut D.l1z) hx fun g2 p2 e2 => wpAny_pure (wpAny_pure ?_))
    refine wpAny_bind (wpAny_bind (wpAny_holding ?_))
    show wpAny _ _ (Builtin.SmallTypes.nextOf (.ref i2) >>= _) _ _ _
    refine wpAny_bind (RZ.nextOf_tuple_end hh ((h2.extBut e1.extBut D.i2z).extBut e2.extBut D.i12.symm) ((t2.extBut e1.extBut D.l2z).extBut e2.extBut D.l2i1) hy fun g3 e e3 he => ?_)
    exact hE g3 e (fun c o c1 c3 c4 q => e3 _ _ c4 (e2.extBut _ _ c3 (e1.extBut _ _ c1 q))) he
theorem zipT_heldNext {z TI TO T i1 i2 l1 l2 : Addr} {f : Bool} {oT : Obj} {k1 k2 : Nat} {xs ys : Array Value} {x y : Value} {Q : Option Value → Shared → Prop} (D : ZipApart z TI TO i1 i2 l1 l2)
    (hz : IsZipHeld s.heap z TI TO T f) (hT : s.heap.get? T = some oT) (hTI : IsPair s.heap TI (.ref i1) (.ref i2))
    (h1 : s.heap.IsTupleIter i1 l1 k1) (h2 : s.heap.IsTupleIter i2 l2 k2) (t1 : s.heap.IsTuple l1 xs) (t2 : s.heap.IsTuple l2 ys) (hx : xs[k1]? = some x) (hy : ys[k2]? = some y)
    (hQ : ∀ h', IsZipHeld h' z TI TO T true → h'.IsTupleIter i1 l1 (k1 + 1) → h'.IsTupleIter i2 l2 (k2 + 1) → IsPair h' s.heap.objs.size x y → h'.objs.size = s.heap.objs.size + 1 →
      (∀ c o, c ≠ z → c ≠ i1 → c ≠ i2 → s.heap.get? c = some o → h'.get? c = some o) → Q (some (.ref s.heap.objs.size)) { s with heap := h' }) :
    wpAny (model prog w) A (pyNext (.ref z)) Q E s := by
  have hTy : s.TypeIs (.ref z) "zip" := ⟨_, hz, rfl⟩
  unfold pyNext
  exact wpAny_bind (wpAny_attempt (wpAny_callSpecial?_slot (name := Str.ofString "__next__") hTy F.slot_zip_next
    (wpAny_call_entry F.slot_zip_next hTy F.entry_zip_next
      (zipT_heldItem D hz hT hTI h1 h2 t1 t2 hx hy fun h' a1 a2 a3 a4 a5 a6 => wpAny_pure (hQ h' a1 a2 a3 a4 a5 a6)) (F.args_zip_next_1 _))))
theorem zipT_heldDone {z TI TO T i1 i2 l1 l2 : Addr} {f : Bool} {oT : Obj} {k1 k2 : Nat} {xs ys : Array Value} {Q : Option Value → Shared → Prop} (hh : A.handled = none) (D : ZipApart z TI TO i1 i2 l1 l2)
    (hz : IsZipHeld s.heap z TI TO T f) (hT : s.heap.get? T = some oT) (hTI : IsPair s.heap TI (.ref i1) (.ref i2))
    (h1 : s.heap.IsTupleIter i1 l1 k1) (h2 : s.heap.IsTupleIter i2 l2 k2) (t1 : s.heap.IsTuple l1 xs) (t2 : s.heap.IsTuple l2 ys) (hend : xs[k1]? = none ∨ ys[k2]? = none)
    (hQ : ∀ h', (∀ c o, c ≠ z → c ≠ i1 → c ≠ i2 → s.heap.get? c = some o → h'.get? c = some o) → Q none { s with heap := h' }) : wpAny (model prog w) A (pyNext (.ref z)) Q E s := by
  have hTy : s.TypeIs (.ref z) "zip" := ⟨_, hz, rfl⟩
  unfold pyNext
  refine wpAny_bind (wpAny_attempt (wpAny_callSpecial?_slot (name := Str.ofString "__next__") hTy F.slot_zip_next
    (wpAny_call_entry F.slot_zip_next hTy F.entry_zip_next (zipT_heldEnd hh D hz hT hTI h1 h2 t1 t2 hend fun h' e hk he => ?_) (F.args_zip_next_1 _))))
  obtain ⟨o, ho, hc⟩ := he
  exact wpAny_bind (wpAny_isInstance (T := "StopIteration") (b := true) ⟨o, ho, hc⟩ isSubtype_stop (wpAny_pure (hQ _ hk)))
end
end PySem
namespace Toy
open PySem PySem.Spec PyProof.Rows L2
open Sem (wp)
def zsu (z TI TO i1 i2 l1 l2 S : Addr) (i : Nat) (h : Heap) : Prop := IsPair h TI (.ref i1) (.ref i2) ∧ h.IsTupleIter i1 l1 i ∧ h.IsTupleIter i2 l2 i ∧ (∃ oO, h.get? TO = some oO) ∧
  ((IsZip h z TI TO .none ∧ ∃ a b, IsPair h TO a b) ∨ ∃ T f oT, IsZipHeld h z TI TO T f ∧ h.get? T = some oT ∧ T ≠ z ∧ T ≠ i1 ∧ T ≠ i2 ∧ T ≠ S)
theorem zsu.at {z TI TO i1 i2 l1 l2 S : Addr} {i : Nat} {h h' : Heap} (n : S ≠ z ∧ S ≠ TI ∧ S ≠ TO ∧ S ≠ i1 ∧ S ≠ i2) (k : ∀ b o, b ≠ S → h.get? b = some o → h'.get? b = some o) (st : zsu z TI TO i1 i2 l1 l2 S i h) : zsu z TI TO i1 i2 l1 l2 S i h' := by
  obtain ⟨nz, nTI, nTO, n1, n2⟩ := n
  obtain ⟨hTI, h1, h2, ⟨oO, hO⟩, hz⟩ := st
  refine ⟨k _ _ (Ne.symm nTI) hTI, h1.at fun o e => k _ o (Ne.symm n1) e, h2.at fun o e => k _ o (Ne.symm n2) e, ⟨oO, k _ _ (Ne.symm nTO) hO⟩, ?_⟩
  rcases hz with ⟨hz, a, b, hTO⟩ | ⟨T, f, oT, hz, hT, r1, r2, r3, r4⟩
  · exact .inl ⟨k _ _ (Ne.symm nz) hz, a, b, k _ _ (Ne.symm nTO) hTO⟩
  · exact .inr ⟨T, f, oT, k _ _ (Ne.symm nz) hz, k _ _ r4 hT, r1, r2, r3, r4⟩
theorem ext_zipT {X : Cx} {pins : List (Addr × Obj)} {σ : L2.St} {z TI TO i1 i2 l1 l2 S : Addr} {A : Around} {R : Result → Shared → Prop} (hA : A.in1.handled = none) (D : ZipApart z TI TO i1 i2 l1 l2) {xs ys : List V} (hlen : xs.length = ys.length) (h1000 : xs.length ≤ 1000)
    (nS : S ≠ z ∧ S ≠ TI ∧ S ≠ TO ∧ S ≠ i1 ∧ S ≠ i2) (res : Value) (H0 : Hp) (hq : ∀ H', But S H0 H' → SqT X.K H' l1 xs ∧ SqT X.K H' l2 ys) :
    ∀ (k i : Nat) (s : Shared) (H : Hp) (ts : List Addr), xs.length - i = k → i ≤ xs.length → Inv X pins σ H s → (∀ b ∈ [z, TO, i1, i2], FpOk X pins H b) → zsu z TI TO i1 i2 l1 l2 S i s.heap → But S H0 H →
    H S = some (.lst (ts.map V.ref)) → ts.length = i → PairsAt H ts xs ys →
    (∀ s' H' ts', Inv X pins σ H' s' → But S H0 H' → H' S = some (.lst (ts'.map V.ref)) → ts'.length = xs.length → PairsAt H' ts' xs ys → R (.ok (.ret res)) s') →
    codeAny (model X.prog X.w) A (.builtin "list.extend.loop" ⟨[.ref S, .ref z, res], []⟩) R s := by
  have hline : 1000 ≤ sizeLine := small (Nat.le_refl _)
  intro k
  induction k with
  | zero =>
    intro i s H ts hk hi I hf st hB hS hts hc hR
    have hin : i = xs.length := by omega
    obtain ⟨hTI, h1, h2, _, hz⟩ := st
    obtain ⟨q1, q2⟩ := hq H hB
    obtain ⟨its, rv, p1, _⟩ := I.tuple q1
    obtain ⟨its2, rv2, p2, _⟩ := I.tuple q2
    have l1' := rv.length
    have e1 : its.toArray[i]? = none := by simp; omega
    refine codeAny_builtin F.entry_extend_loop ?_
    rw [Around.under_plainId F.plain_extend_loop _]
    show wpAny _ A.in1 (pyNext (.ref z) >>= _) _ _ s
    refine wpAny_bind ?_
    have fin : ∀ h', (∀ c o, c ≠ z → c ≠ TO → c ≠ i1 → c ≠ i2 → s.heap.get? c = some o → h'.get? c = some o) → R (.ok (.ret res)) { s with heap := h' } := fun h' hk =>
      hR _ H ts (I.turnedL (t' := s.toks) (ch := [z, TO, i1, i2]) (fun c o hb q => hk c o (fun q' => hb (by simp [q'])) (fun q' => hb (by simp [q'])) (fun q' => hb (by simp [q'])) (fun q' => hb (by simp [q'])) q) hf) hB hS (by omega) hc
    rcases hz with ⟨hz, a, b, hTO⟩ | ⟨T, f, oT, hz, hT, r1, r2, r3, r4⟩
    · exact RZ.pyNext_zipT_end hA D hz hTI hTO h1 h2 p1 p2 (.inl e1) fun h' hk => wpAny_pure (fin h' hk)
    · exact zipT_heldDone hA D hz hT hTI h1 h2 p1 p2 (.inl e1) fun h' hk => wpAny_pure (fin h' fun c o c1 c2 c3 c4 e => hk c o c1 c3 c4 e)
  | succ k ih =>
    intro i s H ts hk hi I hf st hB hS hts hc hR
    have hlt : i < xs.length := by omega
    have hlt2 : i < ys.length := by omega
    obtain ⟨hTI, h1, h2, ⟨oO, hO⟩, hz⟩ := st
    obtain ⟨q1, q2⟩ := hq H hB
    obtain ⟨its, rv, p1, _⟩ := I.tuple q1
    obtain ⟨its2, rv2, p2, _⟩ := I.tuple q2
    obtain ⟨u, hu, ru⟩ := rv.get (List.getElem?_eq_getElem hlt)
    obtain ⟨u2, hu2, ru2⟩ := rv2.get (List.getElem?_eq_getElem hlt2)
    have lt : ∀ {c o}, s.heap.get? c = some o → s.heap.objs.size ≠ c := fun e => Nat.ne_of_gt (Heap.lt_size e)
    have n1 : s.heap.objs.size ≠ i1 := let ⟨_, e, _⟩ := h1; lt e
    have n2 : s.heap.objs.size ≠ i2 := let ⟨_, e, _⟩ := h2; lt e
    have nO : s.heap.objs.size ≠ TO := lt hO
    have hfr : H s.heap.objs.size = none := I.hok.fresh (Nat.le_refl _)
    have nNS : S ≠ s.heap.objs.size := ne_of_none hS hfr
    refine codeAny_builtin F.entry_extend_loop ?_
    rw [Around.under_plainId F.plain_extend_loop _]
    show wpAny _ A.in1 (pyNext (.ref z) >>= _) _ _ s
    refine wpAny_bind ?_
    have nz : s.heap.objs.size ≠ z := by
      rcases hz with ⟨hz, _⟩ | ⟨_, _, _, hz, _⟩
      · exact lt hz
      · exact lt hz
    -- one step on
    have on : ∀ h', IsPair h' s.heap.objs.size u u2 → (∀ c o, c ≠ z → c ≠ TO → c ≠ i1 → c ≠ i2 → s.heap.get? c = some o → h'.get? c = some o) → zsu z TI TO i1 i2 l1 l2 S (i + 1) h' →
        wpAny (model X.prog X.w) A.in1 (updateSeq S (·.push (.ref s.heap.objs.size)) >>= fun _ => again (.builtin "list.extend.loop" ⟨[.ref S, .ref z, res], []⟩))
          (fun fin s' => match fin with | .done f => R (.ok f) s' | .again c' => c'.quiet = true ∧ codeAny (model X.prog X.w) A c' R s') (fun e s' => R (.error e) s') { s with heap := h' } := by
      intro h' a5 hk' st'
      have new : ObjOk X.prog X.w (upd H s.heap.objs.size (.tup [xs[i], ys[i]])) h' s.heap.objs.size (.tup [xs[i], ys[i]]) :=
        ⟨by show 2 ≤ sizeLine; decide, [u, u2], .cons ru (.cons ru2 .nil), ⟨_, a5, rfl, _, rfl⟩⟩
      have I1 : Inv X pins σ (upd H s.heap.objs.size (.tup [xs[i], ys[i]])) { s with heap := h' } :=
        I.turnedNew (t' := s.toks) (ch := [z, TO, i1, i2]) (fun c o hb q => hk' c o (fun q' => hb (by simp [q'])) (fun q' => hb (by simp [q'])) (fun q' => hb (by simp [q'])) (fun q' => hb (by simp [q'])) q) hf (Nat.le_refl _) new
      have hS1 : (upd H s.heap.objs.size (.tup [xs[i], ys[i]])) S = some (.lst (ts.map V.ref)) := by rw [upd_ne nNS]; exact hS
      obtain ⟨hz1, its3, n3, rv3, hl3, hS3⟩ := I1.lstM hS1
      have hl3' : its3.length = i := by rw [← hl3, List.length_map, hts]
      have I2 := I1.lset (f := (·.push (.ref s.heap.objs.size))) (ys := (ts ++ [s.heap.objs.size]).map V.ref) (its' := its3 ++ [.ref s.heap.objs.size]) (t' := s.toks) hS1 hS3 (by simp) (by rw [List.map_append]; exact rv3.append (.cons rfl .nil)) (by rw [List.length_map, List.length_append, hts]; show i + 1 ≤ sizeLine; omega)
      refine wpAny_bind ?_
      refine wpAny_updateSeq hS3 rfl (wpAny_pure ⟨plainId_quiet F.plain_extend_loop _, ih (i + 1) _ _ (ts ++ [s.heap.objs.size]) (by omega) hlt I2 (fun b hb => ?_) (st'.at nS fun b o hb e => (Heap.get?_update_other _ _ (Ne.symm hb)).trans e) ?_ upd_same (by rw [List.length_append, hts] <;> rfl) ?_ hR⟩) (by rw [List.size_toArray]; omega) (by simp; omega)
      · have h0 := hf b hb
        refine ⟨?_, h0.2⟩
        have nb : b ≠ s.heap.objs.size := by
          simp only [List.mem_cons, List.not_mem_nil, or_false] at hb
          rcases hb with rfl | rfl | rfl | rfl
          · exact Ne.symm nz
          · exact Ne.symm nO
          · exact Ne.symm n1
          · exact Ne.symm n2
        have nb2 : b ≠ S := by
          obtain ⟨m1, m2, m3, m4, m5⟩ := nS
          simp only [List.mem_cons, List.not_mem_nil, or_false] at hb
          rcases hb with rfl | rfl | rfl | rfl
          · exact Ne.symm m1
          · exact Ne.symm m3
          · exact Ne.symm m4
          · exact Ne.symm m5
        rw [upd_ne nb2, upd_ne nb]
        exact h0.1
      · exact fun c o hc e => by
          have e' := hB c o hc e
          rw [upd_ne hc, upd_ne (ne_of_none e' hfr)]
          exact e'
      · intro j t x y hj hx hy
        by_cases c : j < i
        · rw [List.getElem?_append_left (by omega)] at hj
          have h5 := hc j t x y hj hx hy
          have nt : t ≠ S := ne_of h5 hS (by intro w; cases w)
          rw [upd_ne nt, upd_ne (ne_of_none h5 hfr)]
          exact h5
        · have hj2 := (List.getElem?_eq_some_iff.mp hj).1
          rw [List.length_append] at hj2
          have hj3 : j < ts.length + 1 := hj2
          have : j = i := by omega
          subst this
          rw [List.getElem?_append_right (by omega), hts, Nat.sub_self] at hj
          cases (Option.some.inj hj)
          rw [List.getElem?_eq_getElem hlt] at hx
          rw [List.getElem?_eq_getElem hlt2] at hy
          cases (Option.some.inj hx)
          cases (Option.some.inj hy)
          rw [upd_ne (Ne.symm nNS), upd_same]
    rcases hz with ⟨hz, a, b, hTO⟩ | ⟨T, f, oT, hz, hT, r1, r2, r3, r4⟩
    · refine RZ.pyNext_zipT_item D hz hTI hTO h1 h2 p1 p2 (x := u) (y := u2) (by simpa using hu) (by simpa using hu2) fun h' a1 a2 a3 a4 a5 a6 hk' => ?_
      exact on h' a5 hk' ⟨hk' _ _ D.TIz D.TITO D.TIi1 D.TIi2 hTI, a3, a4, ⟨_, a2⟩, .inr ⟨s.heap.objs.size, false, _, a1, a5, nz, n1, n2, Ne.symm nNS⟩⟩
    · refine zipT_heldNext D hz hT hTI h1 h2 p1 p2 (x := u) (y := u2) (by simpa using hu) (by simpa using hu2) fun h' a1 a3 a4 a5 a6 hk' => ?_
      exact on h' a5 (fun c o c1 c2 c3 c4 e => hk' c o c1 c3 c4 e) ⟨hk' _ _ D.TIz D.TIi1 D.TIi2 hTI, a3, a4, ⟨oO, hk' _ _ D.TOz D.TOi1 D.TOi2 hO⟩, .inr ⟨T, true, oT, a1, hk' _ _ r1 r2 r3 hT, r1, r2, r3, r4⟩⟩
theorem list_of_zipT {X : Cx} {pins : List (Addr × Obj)} {σ : L2.St} {H : Hp} {s : Shared} (I : Inv X pins σ H s) (hcalm : X.calm = true) {z TI TO i1 i2 l1 l2 : Addr} (D : ZipApart z TI TO i1 i2 l1 l2) {xs ys : List V} (hlen : xs.length = ys.length) (h1000 : xs.length ≤ 1000)
    (hz : IsZip s.heap z TI TO .none) (hTI : IsPair s.heap TI (.ref i1) (.ref i2)) (hTO : ∃ a b, IsPair s.heap TO a b) (h1 : s.heap.IsTupleIter i1 l1 0) (h2 : s.heap.IsTupleIter i2 l2 0)
    (hf : ∀ b ∈ [z, TO, i1, i2], FpOk X pins H b) (hq1 : SqT X.K H l1 xs) (hq2 : SqT X.K H l2 ys) {Q : VK}
    (q : ∀ S ts H2, Same H H2 → H S = none → H2 S = some (.lst (ts.map V.ref)) → ts.length = xs.length → PairsAt H2 ts xs ys → Q (.ref S) H2) :
    wpAny (model X.prog X.w) X.A (call (.type "list") [.ref z]) (EP X pins σ Q) X.xe s := by
  have hh : X.A.in1.in1.handled = none := show X.A.handled = none from I.ok.hd hcalm
  obtain ⟨a0, b0, hTO⟩ := hTO
  have nz : s.heap.objs.size ≠ z := Nat.ne_of_gt (Heap.lt_size hz)
  have nTI : s.heap.objs.size ≠ TI := Nat.ne_of_gt (Heap.lt_size hTI)
  have nTO : s.heap.objs.size ≠ TO := Nat.ne_of_gt (Heap.lt_size hTO)
  have n1 : s.heap.objs.size ≠ i1 := let ⟨_, e, _⟩ := h1; Nat.ne_of_gt (Heap.lt_size e)
  have n2 : s.heap.objs.size ≠ i2 := let ⟨_, e, _⟩ := h2; Nat.ne_of_gt (Heap.lt_size e)
  have hfr : H s.heap.objs.size = none := I.hok.fresh (Nat.le_refl _)
  refine callType_codes (Q₁ := fun obj s₁ => obj = .ref s.heap.objs.size ∧ s₁ = { s with heap := s.heap.push { cls := .type "list", data := .seq #[] } }) F.called_list (F.typeCall_list_1 _) F.entry_list_init
    (code_list_new _ ⟨rfl, rfl⟩) fun obj s₁ h₁ => ?_
  obtain ⟨rfl, rfl⟩ := h₁
  have hS : (s.heap.push { cls := .type "list", data := .seq #[] }).get? s.heap.objs.size = some { cls := .type "list", data := .seq #[] } := Heap.get?_push_size _ rfl
  refine ⟨⟨_, hS, rfl⟩, F.args_list_init_2 _ _, ?_⟩
  show wpAny _ X.A.in1.in1 (do let old ← Builtin.List.listItems (.ref s.heap.objs.size); Builtin.List.listUpdate (.ref s.heap.objs.size) (fun _ => #[]); letGo old.toList.reverse; Builtin.List.listExtendWith (.ref s.heap.objs.size) (.ref z) .none) _ _ _
  refine wpAny_bind ?_
  unfold Builtin.List.listItems
  refine wpAny_bind (wpAny_seqItems hS rfl (wpAny_pure ?_))
  show wpAny _ X.A.in1.in1 (updateSeq s.heap.objs.size (fun _ => #[]) >>= fun _ => letGo (#[] : Array Value).toList.reverse >>= fun _ => Builtin.List.listExtendWith (.ref s.heap.objs.size) (.ref z) .none) _ _ _
  refine wpAny_bind (wpAny_updateSeq hS rfl ?_)
  have hS₂ := Heap.get?_update_self (Obj.mapSeq (fun _ => (#[] : Array Value))) hS rfl
  have oth : ∀ b o, b ≠ s.heap.objs.size → s.heap.get? b = some o → ((s.heap.push { cls := .type "list", data := .seq #[] }).update s.heap.objs.size (Obj.mapSeq (fun _ => (#[] : Array Value)))).get? b = some o :=
    fun b o hb e => (Heap.get?_update_other _ _ (Ne.symm hb)).trans (Heap.get?_push_of_some _ e)
  refine wpAny_bind (wpAny_letGo ?_)
  generalize hh2 : (s.heap.push { cls := .type "list", data := .seq #[] }).update s.heap.objs.size (Obj.mapSeq (fun _ => (#[] : Array Value))) = hp2 at hS₂ oth
  unfold Builtin.List.listExtendWith
  refine wpAny_bind (wpAny_typeOf (T := "zip") ⟨_, oth _ _ (Ne.symm nz) hz, rfl⟩ ?_)
  have g1 : Builtin.List.listSameRef (.ref s.heap.objs.size) (.ref z) = false := by simp [Builtin.List.listSameRef, nz]
  have g2 : (Value.type "zip" == Value.type "list") = false := by decide
  have g3 : (Value.type "zip" == Value.type "tuple") = false := by decide
  simp only [g1, g2, g3, Bool.or_false, Bool.false_eq_true, if_false]
  refine wpAny_bind (wpAny_pyIter_zip (oth _ _ (Ne.symm nz) hz) ?_)
  refine wpAny_bind (wpAny_holding ?_)
  unfold Builtin.List.listLengthHint
  refine wpAny_bind (wpAny_specialOf (T := "zip") ⟨_, oth _ _ (Ne.symm nz) hz, rfl⟩ zip_no_lenT ?_)
  show wpAny _ X.A.in1.in1 (specialOf (Value.ref z) (Str.ofString "__length_hint__") >>= _) _ _ _
  refine wpAny_bind (wpAny_specialOf (T := "zip") ⟨_, oth _ _ (Ne.symm nz) hz, rfl⟩ zip_no_hintT ?_)
  refine wpAny_pure ?_
  show wpAny _ X.A.in1.in1 (rule "list.extend.makes-room" >>= fun _ => Builtin.List.listTouch (.ref s.heap.objs.size) >>= fun _ =>
    again (.builtin "list.extend.loop" ⟨[.ref s.heap.objs.size, .ref z, .none], []⟩)) _ _ _
  refine wpAny_bind (wpAny_rule ?_)
  refine wpAny_bind ?_
  show wpAny _ X.A.in1.in1 (updateSeq s.heap.objs.size (·.push .none) >>= fun _ => updateSeq s.heap.objs.size (·.pop)) _ _ _
  refine wpAny_bind (wpAny_updateSeq hS₂ rfl ?_)
  have hS₃ := Heap.get?_update_self (Obj.mapSeq (·.push Value.none)) hS₂ rfl
  refine wpAny_updateSeq (hz := by seq_fits) hS₃ rfl ?_
  have hS₄ := Heap.get?_update_self (Obj.mapSeq (·.pop)) hS₃ rfl
  have oth2 : ∀ b o, b ≠ s.heap.objs.size → s.heap.get? b = some o → ((hp2.update s.heap.objs.size (Obj.mapSeq (·.push Value.none))).update s.heap.objs.size (Obj.mapSeq (·.pop))).get? b = some o :=
    fun b o hb e => (Heap.get?_update_other _ _ (Ne.symm hb)).trans ((Heap.get?_update_other _ _ (Ne.symm hb)).trans (oth b o hb e))
  have new : ObjOk X.prog X.w (upd H s.heap.objs.size (.lst [])) ((hp2.update s.heap.objs.size (Obj.mapSeq (·.push Value.none))).update s.heap.objs.size (Obj.mapSeq (·.pop))) s.heap.objs.size (.lst []) :=
    ⟨Nat.zero_le _, [], _, .nil, hS₄⟩
  have I1 : Inv X pins σ (upd H s.heap.objs.size (.lst [])) { s with heap := (hp2.update s.heap.objs.size (Obj.mapSeq (·.push Value.none))).update s.heap.objs.size (Obj.mapSeq (·.pop)) } :=
    I.laid (t' := s.toks) (fun b u e => oth2 b u (Nat.ne_of_lt (Heap.lt_size e)) e) (Nat.le_refl _) new
  have S1 := same_new hfr (.lst [])
  refine wpAny_pure ⟨plainId_quiet F.plain_extend_loop _, ext_zipT (A := X.A.in1) (R := wants (fun r s₂ => r = Value.none ∧ EP X pins σ Q (Value.ref s.heap.objs.size) s₂) X.xe) hh D hlen h1000 ⟨nz, nTI, nTO, n1, n2⟩ .none (upd H s.heap.objs.size (.lst [])) (fun H' B' => ?_) (xs.length - 0) 0 _ _ [] rfl (Nat.zero_le _) I1 (fun b hb => ?_) ?_ But.refl upd_same rfl (fun j t x y hj => by simp at hj) fun s' H' ts' I' B' hS' hl' hp' => ⟨rfl, .ref s.heap.objs.size, H', I', rfl, q _ ts' H' (but_same hfr S1 B') hfr hS' hl' hp'⟩⟩
  · have S2 := but_same hfr S1 B'
    exact ⟨same_tup S2 hq1, same_tup S2 hq2⟩
  · have h0 := hf b hb
    refine ⟨?_, h0.2⟩
    have nb2 : b ≠ s.heap.objs.size := by
      simp only [List.mem_cons, List.not_mem_nil, or_false] at hb
      rcases hb with rfl | rfl | rfl | rfl
      · exact Ne.symm nz
      · exact Ne.symm nTO
      · exact Ne.symm n1
      · exact Ne.symm n2
    rw [upd_ne nb2]
    exact h0.1
  · exact ⟨oth2 _ _ (Ne.symm nTI) hTI, h1.at fun o e => oth2 _ o (Ne.symm n1) e, h2.at fun o e => oth2 _ o (Ne.symm n2) e, ⟨_, oth2 _ _ (Ne.symm nTO) hTO⟩, .inl ⟨oth2 _ _ (Ne.symm nz) hz, a0, b0, oth2 _ _ (Ne.symm nTO) hTO⟩⟩
def tListZipT (K : PySem.W.Frag) (ta : TA) : TE := fun σ H Q => ta σ H fun vs H1 => ∃ a b xs ys, vs = [.ref a, .ref b] ∧ SqT K H1 a xs ∧ SqT K H1 b ys ∧ xs.length = ys.length ∧ xs.length ≤ 1000 ∧
  ∀ S ts H2, Same H1 H2 → H1 S = none → H2 S = some (.lst (ts.map V.ref)) → ts.length = xs.length → PairsAt H2 ts xs ys → Q (.ref S) H2
theorem pe_listZipT {X : Cx} {e e2 : Expr} {ta : TA} {p p2 pos pos2 : Pos} (hc : X.calm = true) (hg0 : Gl X "list") (hm0 : X.mg "list" = none) (hg : Gl X "zip") (hm : X.mg "zip" = none) (ha : PA X [e, e2] ta)
    (hs : starEach [e, e2] X.env = (false, eval e X.env) :: starEach [e2] X.env := by rfl) (hpl : (backTo pos2 (starEach [e2] X.env)).any (·.1) = false := by rfl)
    (na : starEach [.Call (.Name "zip" p2) [e, e2] [] pos2] X.env = (false, eval (.Call (.Name "zip" p2) [e, e2] [] pos2) X.env) :: starEach [] X.env := by rfl) :
    PE X (.Call (.Name "list" p) [.Call (.Name "zip" p2) [e, e2] [] pos2] [] pos) (tListZipT X.K ta) := by
  refine ⟨fun pins s σ H Q I h => ?_⟩
  refine Call_ (ld_blt I hg0 hm0 boot_list (PyProof.Rows.callWith_type1 (args_cons ?_ na) na))
  refine Call_ (ld_blt I hg hm PyProof.Rows.boot_zip (PyProof.Rows.callWith_type1 (thn (ha.run pos2 pins s σ H _ I h) fun us s1 ⟨vs, H1, I1, r1, q1⟩ => ?_) hs hpl))
  obtain ⟨a, b, xs, ys, ex, hqx, hqy, hl, h1000, q⟩ := q1
  subst ex
  cases r1 with
  | cons r rr =>
    cases rr with
    | cons r' rr =>
      cases rr
      cases r
      cases r'
      obtain ⟨its, rv, p1, _⟩ := I1.tuple hqx
      obtain ⟨its2, rv2, p2, _⟩ := I1.tuple hqy
      have la : a < s1.heap.objs.size := by obtain ⟨_, ho1, _⟩ := id p1; exact Heap.lt_size ho1
      have lb : b < s1.heap.objs.size := by obtain ⟨_, ho2, _⟩ := id p2; exact Heap.lt_size ho2
      refine RZ.call_zipT p1 p2 fun h' hz hTI hTO h1 h2 hsz hk => args_nil ?_
      have I2 : Inv X pins σ H1 { s1 with heap := h' } := I1.kept (t' := s1.toks) hk
      refine list_of_zipT (s := { s1 with heap := h' }) I2 hc (PySem.W.ktu_apart s1.heap.objs.size a b la lb) hl h1000 hz hTI ⟨_, _, hTO⟩ h1 h2 (fun c hcm => ?_) hqx hqy q
      have e' : c = s1.heap.objs.size + 4 ∨ c = s1.heap.objs.size + 3 ∨ c = s1.heap.objs.size ∨ c = s1.heap.objs.size + 1 := by simpa using hcm
      have hle : s1.heap.objs.size ≤ c := by
        rcases e' with z | z | z | z
        · rw [z]; exact Nat.le_add_right _ _
        · rw [z]; exact Nat.le_add_right _ _
        · rw [z]; exact Nat.le_refl _
        · rw [z]; exact Nat.le_add_right _ _
      exact I1.fpOk hle (I1.hok.fresh hle)
end Toy
/-! ### data that is compared: no truths in it -/
namespace Toy
open PySem PySem.Spec PyProof.Rows L2
mutual
def nb : PyData → Bool
  | .none => true
  | .bool _ => false
  | .int _ => true
  | .str _ => true
  | .list ds => nbs ds
  | .tuple ds => nbs ds
  | .dict _ => false
def nbs : List PyData → Bool
  | [] => true
  | d :: ds => nb d && nbs ds
end
theorem nbs_of : ∀ {ds : List PyData}, (∀ d ∈ ds, nb d = true) → nbs ds = true
  | [], _ => by simp [nbs]
  | d :: ds, h => by simp [nbs, h d List.mem_cons_self, nbs_of (ds := ds) fun x hx => h x (List.mem_cons_of_mem _ hx)]
mutual
theorem eqv_nb : ∀ d e : PyData, nb d = true → nb e = true → PyData.eqv d e = true → d = e
  | .none, e, _, h, q => by cases e <;> simp_all [PyData.eqv, nb]
  | .int i, e, _, h, q => by cases e <;> simp_all [PyData.eqv, nb]
  | .str x, e, _, h, q => by cases e <;> simp_all [PyData.eqv, nb]
  | .bool _, _, h, _, _ => by simp [nb] at h
  | .dict _, _, h, _, _ => by simp [nb] at h
  | .list ds, e, h, g, q => by
    cases e with
    | list es =>
      rw [PyData.eqv] at q
      exact congrArg PyData.list (eqvs_nb ds es (by simpa [nb] using h) (by simpa [nb] using g) q)
    | _ => simp [PyData.eqv] at q
  | .tuple ds, e, h, g, q => by
    cases e with
    | tuple es =>
      rw [PyData.eqv] at q
      exact congrArg PyData.tuple (eqvs_nb ds es (by simpa [nb] using h) (by simpa [nb] using g) q)
    | _ => simp [PyData.eqv] at q
theorem eqvs_nb : ∀ ds es : List PyData, nbs ds = true → nbs es = true → PyData.eqvAll ds es = true → ds = es
  | [], [], _, _, _ => rfl
  | [], _ :: _, _, _, q => by simp [PyData.eqvAll] at q
  | _ :: _, [], _, _, q => by simp [PyData.eqvAll] at q
  | d :: ds, e :: es, h, g, q => by
    simp only [nbs, Bool.and_eq_true] at h g
    simp only [PyData.eqvAll, Bool.and_eq_true] at q
    rw [eqv_nb d e h.1 g.1 q.1, eqvs_nb ds es h.2 g.2 q.2]
end
structure Ly (n : Nat) (d : PyData) : Prop where
  can : d.canLay0 = true
  dep : d.depth ≤ n
  no : nb d = true
theorem Ly.non {n : Nat} : Ly n .none := ⟨by simp [PyData.canLay0], by simp [PyData.depth], by simp [nb]⟩
theorem Ly.int {n : Nat} {i : Int} : Ly n (.int i) := ⟨by simp [PyData.canLay0], by simp [PyData.depth], by simp [nb]⟩
theorem Ly.str {n : Nat} {x : Str} (h : (PyData.str x).canLay0 = true := by decide +kernel) : Ly n (.str x) := ⟨h, by simp [PyData.depth], by simp [nb]⟩
theorem Ly.mono {n m : Nat} {d : PyData} (a : Ly n d) (h : n ≤ m) : Ly m d := ⟨a.can, Nat.le_trans a.dep h, a.no⟩
theorem can_all : ∀ {ds : List PyData}, (∀ d ∈ ds, d.canLay0 = true) → PyData.canLayAll0 ds = true
  | [], _ => by simp [PyData.canLayAll0]
  | d :: ds, h => by simp [PyData.canLayAll0, h d List.mem_cons_self, can_all (ds := ds) fun x hx => h x (List.mem_cons_of_mem _ hx)]
theorem dep_all {n : Nat} : ∀ {ds : List PyData}, (∀ d ∈ ds, d.depth ≤ n) → PyData.depthAll ds ≤ n
  | [], _ => by simp [PyData.depthAll]
  | d :: ds, h => by
    have h1 := h d List.mem_cons_self
    have h2 := dep_all (ds := ds) fun x hx => h x (List.mem_cons_of_mem _ hx)
    simp only [PyData.depthAll]
    omega
theorem Ly.lst {n : Nat} {ds : List PyData} (h : ∀ d ∈ ds, Ly n d) : Ly (n + 1) (.list ds) :=
  ⟨by simp only [PyData.canLay0]; exact can_all fun d hd => (h d hd).can, by simp only [PyData.depth]; have := dep_all fun d hd => (h d hd).dep; omega, by simp only [nb]; exact nbs_of fun d hd => (h d hd).no⟩
theorem Ly.tup {n : Nat} {ds : List PyData} (h : ∀ d ∈ ds, Ly n d) : Ly (n + 1) (.tuple ds) :=
  ⟨by simp only [PyData.canLay0]; exact can_all fun d hd => (h d hd).can, by simp only [PyData.depth]; have := dep_all fun d hd => (h d hd).dep; omega, by simp only [nb]; exact nbs_of fun d hd => (h d hd).no⟩
theorem Ly.tupI {ns : List Int} : Ly 1 (.tuple (ns.map PyData.int)) := .tup fun d hd => by obtain ⟨i, _, rfl⟩ := List.mem_map.mp hd; exact .int
theorem Ly.lstI {ns : List Int} : Ly 1 (.list (ns.map PyData.int)) := .lst fun d hd => by obtain ⟨i, _, rfl⟩ := List.mem_map.mp hd; exact .int
theorem Ly.tup2 {n : Nat} {a b : PyData} (ha : Ly n a) (hb : Ly n b) : Ly (n + 1) (.tuple [a, b]) := .tup fun d hd => by
  rcases List.mem_cons.mp hd with rfl | hd
  · exact ha
  · cases List.mem_singleton.mp hd; exact hb
theorem Ly.sh {n : Nat} {d : PyData} (a : Ly n d) (h : n ≤ 64 := by decide) : SeqAt.shaped d = true := by
  show (d.canLay0 && decide (d.depth ≤ 64)) = true
  rw [a.can, decide_eq_true (Nat.le_trans a.dep h)] <;> rfl
theorem Ly.refl {n : Nat} {d : PyData} (a : Ly n d) (h : n ≤ 64 := by decide) : PyData.eqv d d = true := SeqAt.eqv_refl _ (SeqAt.canLay_of_shaped (a.sh h))
theorem Ly.eq {n m : Nat} {d e : PyData} (a : Ly n d) (b : Ly m e) (h : PyData.eqv d e = true) : d = e := eqv_nb d e a.no b.no h
theorem Ly.ne {n m : Nat} {d e : PyData} (a : Ly n d) (b : Ly m e) (h : d ≠ e) : PyData.eqv d e = false := by
  cases c : PyData.eqv d e with
  | false => rfl
  | true => exact absurd (a.eq b c) h
theorem dpAll_of {K : PySem.W.Frag} {H : Hp} : ∀ {xs : List V} {ds : List PyData}, xs.length = ds.length → (∀ (i : Nat) (x : V) (d : PyData), xs[i]? = some x → ds[i]? = some d → Dp K H x d) → DpAll K H xs ds
  | [], [], _, _ => .nil
  | [], _ :: _, h, _ => by simp at h
  | _ :: _, [], h, _ => by simp at h
  | x :: xs, d :: ds, h, q => .cons (q 0 x d rfl rfl) (dpAll_of (by simpa using h) fun i y e h1 h2 => q (i + 1) y e (by simpa using h1) (by simpa using h2))
theorem dp_tup2 {K : PySem.W.Frag} {H : Hp} {p : Addr} {x y : V} {a b : PyData} (h : SqT K H p [x, y]) (ha : Dp K H x a) (hb : Dp K H y b) : Dp K H (.ref p) (.tuple [a, b]) := .tup h (.cons ha (.cons hb .nil))
end Toy
/-! ### tuples: t + u and t[a:b] of any kind -/
namespace Toy
open PySem PySem.Spec PyProof.Rows L2
def rCatU : R2 := fun x y H Q => ∃ a b xs ys, x = .ref a ∧ y = .ref b ∧ H a = some (.tup xs) ∧ H b = some (.tup ys) ∧ xs.length + ys.length ≤ sizeLine ∧ ∀ p H', Same H H' → H' p = some (.tup (xs ++ ys)) → Q (.ref p) H'
theorem op_catU {X : Cx} : OpR X (binaryOp .Add) rCatU := by
  intro pins s σ H x y v u Q I rx ry h
  obtain ⟨a, b, xs, ys, rfl, rfl, ha, hb, hz, q⟩ := h
  refine op_catA pins s σ H _ _ v u Q I rx ry ⟨a, b, xs, ys, rfl, rfl, SqT.of ha, SqT.of hb, hz, fun e => ?_, fun _ e => ?_, fun _ _ p hp => q p _ (same_new hp _) upd_same⟩
  · subst e
    exact q b H (fun _ _ z => z) (by rw [hb, List.nil_append])
  · subst e
    exact q a H (fun _ _ z => z) (by rw [ha, List.append_nil])
def rSlU : V → Option Int → Option Int → Hp → VK → Prop := fun x lo hi H Q => ∃ a xs, x = .ref a ∧ H a = some (.tup xs) ∧ ∀ p H', Same H H' → H' p = some (.tup (cutV xs lo hi)) → Q (.ref p) H'
theorem sl_tupU {X : Cx} : SlR X rSlU := by
  intro pins s σ H x v vl vu lo hi sl Q I rx hs pl pu h
  obtain ⟨a, xs, rfl, ha, q⟩ := h
  refine sl_tupA pins s σ H _ v vl vu lo hi sl Q I rx hs pl pu ⟨a, xs, rfl, SqT.of ha, fun e => ?_, fun _ p hp => q p _ (same_new hp _) upd_same⟩
  refine q a H (fun _ _ z => z) ?_
  rw [ha]
  have : cutV xs lo hi = xs := by
    unfold cutV
    rw [e.1, e.2, List.drop_zero, Nat.sub_zero, List.take_length]
  rw [this]
/-! ### data: rows of numbers, grids, folds by a table -/
def iN (xs : List Nat) : List Int := xs.map fun n : Nat => (n : Int)
theorem iN_at {xs : List Nat} {j n : Nat} (h : xs[j]? = some n) : ((iN xs).map V.int)[j]? = some (.int (n : Nat)) := by
  unfold iN
  rw [List.getElem?_map, List.getElem?_map, h] <;> rfl
theorem iN_len {xs : List Nat} : ((iN xs).map V.int).length = xs.length := by unfold iN; rw [List.length_map, List.length_map]
theorem iN_snoc {xs : List Nat} {n : Nat} : (iN xs).map V.int ++ [.int (n : Nat)] = (iN (xs ++ [n])).map V.int := by unfold iN; rw [List.map_append, List.map_append] <;> rfl
theorem iN_app {xs ys : List Nat} : (iN xs).map V.int ++ (iN ys).map V.int = (iN (xs ++ ys)).map V.int := by unfold iN; rw [List.map_append, List.map_append]
theorem iN_mem {xs : List Nat} {y : V} {i : Nat} (h : ((iN xs).map V.int)[i]? = some y) : ∃ n : Nat, y = .int (n : Nat) ∧ xs[i]? = some n := by
  unfold iN at h
  rw [List.getElem?_map, List.getElem?_map] at h
  cases hx : xs[i]? with
  | none => rw [hx] at h; cases h
  | some n => rw [hx] at h; exact ⟨n, (Option.some.inj h).symm, rfl⟩
theorem getD_at {xs : List Nat} {j : Nat} (h : j < xs.length) : xs[j]? = some (xs.getD j 0) := by
  rw [List.getD_eq_getElem?_getD, List.getElem?_eq_getElem h] <;> rfl
theorem getD_mem {xs : List Nat} {j : Nat} (h : j < xs.length) : xs.getD j 0 ∈ xs := by
  rw [List.getD_eq_getElem?_getD, List.getElem?_eq_getElem h]
  exact List.getElem_mem h
theorem cut_to {xs : List V} (n : Nat) : cutV xs none (some (n : Int)) = xs.take n := by
  unfold cutV
  rw [HT.sIx_nat, HT.sIx_none, List.drop_zero, Nat.sub_zero]
  by_cases c : n ≤ xs.length
  · rw [Nat.min_eq_left c]
  · rw [Nat.min_eq_right (by omega), List.take_length, List.take_of_length_le (by omega)]
theorem cut_from {xs : List V} (n : Nat) : cutV xs (some (n : Int)) none = xs.drop n := by
  unfold cutV
  rw [HT.sIx_nat, HT.sIx_none]
  by_cases c : n ≤ xs.length
  · rw [Nat.min_eq_left c]
    exact List.take_of_length_le (by rw [List.length_drop]; omega)
  · rw [Nat.min_eq_right (by omega), Nat.sub_self, List.take_zero, List.drop_of_length_le (by omega)]
/-! ### data: a deed -/
structure Dd where
  add : Int
  low : Option Int
  high : Option Int
def oV : Option Int → V
  | none => .non
  | some i => .int i
def Dd.vs (d : Dd) : List V := [.int d.add, oV d.low, oV d.high]
def Dd.at_ (K : PySem.W.Frag) (H : Hp) (a : Addr) (d : Dd) : Prop := SqT K H a d.vs
/-- the ends stand right -/
def Dd.Ok (d : Dd) : Prop := ∀ l h, d.low = some l → d.high = some h → l < h ∨ (l = h ∧ d.add = 0)
def up (o : Option Int) (f : Int) : Int := match o with | none => f | some l => if f > l then f else l
def dn (o : Option Int) (f : Int) : Int := match o with | none => f | some h => if f < h then f else h
def Dd.ap (d : Dd) (v : Int) : Int := dn d.high (up d.low (v + d.add))
def hi (o : Option Int) (f : Int) : Int := match o with | none => f | some h => if f > h then h else f
def mk (d : Dd) (v : Int) : Int := match d.low with | none => hi d.high (v + d.add) | some l => if v + d.add < l then l else hi d.high (v + d.add)
theorem mk_eq {d : Dd} (ok : d.Ok) (v : Int) : mk d v = d.ap v := by
  obtain ⟨add, low, high⟩ := d
  have ok' := ok
  unfold Dd.Ok at ok'
  cases low with
  | none =>
    cases high with
    | none => rfl
    | some h =>
      show (if v + add > h then h else v + add) = if v + add < h then v + add else h
      by_cases c : v + add > h
      · rw [if_pos c, if_neg (by omega)]
      · rw [if_neg c]
        by_cases c2 : v + add < h
        · rw [if_pos c2]
        · rw [if_neg c2]; omega
  | some l =>
    cases high with
    | none =>
      show (if v + add < l then l else v + add) = if v + add > l then v + add else l
      by_cases c : v + add < l
      · rw [if_pos c, if_neg (by omega)]
      · rw [if_neg c]
        by_cases c2 : v + add > l
        · rw [if_pos c2]
        · rw [if_neg c2]; omega
    | some h =>
      have := ok' l h rfl rfl
      show (if v + add < l then l else if v + add > h then h else v + add) = if (if v + add > l then v + add else l) < h then (if v + add > l then v + add else l) else h
      by_cases c : v + add < l
      · rw [if_pos c, if_neg (show ¬ v + add > l by omega)]
        by_cases c2 : l < h
        · rw [if_pos c2]
        · rw [if_neg c2]; omega
      · rw [if_neg c]
        have e : (if v + add > l then v + add else l) = v + add := by
          by_cases c2 : v + add > l
          · rw [if_pos c2]
          · rw [if_neg c2]; omega
        rw [e]
        by_cases c2 : v + add > h
        · rw [if_pos c2, if_neg (by omega)]
        · rw [if_neg c2]
          by_cases c3 : v + add < h
          · rw [if_pos c3]
          · rw [if_neg c3]; omega
/-- all numbers of a deed are within b -/
def Dd.In (b : Int) (d : Dd) : Prop := -b ≤ d.add ∧ d.add ≤ b ∧ (∀ l, d.low = some l → -b ≤ l ∧ l ≤ b) ∧ ∀ l, d.high = some l → -b ≤ l ∧ l ≤ b
theorem in_mk {b add : Int} {low high : Option Int} (h1 : -b ≤ add) (h2 : add ≤ b) (hl : ∀ l, low = some l → -b ≤ l ∧ l ≤ b) (hh : ∀ l, high = some l → -b ≤ l ∧ l ≤ b) : Dd.In b ⟨add, low, high⟩ := ⟨h1, h2, hl, hh⟩
theorem in_none {b : Int} : ∀ l, (none : Option Int) = some l → -b ≤ l ∧ l ≤ b := fun _ h => nomatch h
theorem in_some {b x : Int} (h1 : -b ≤ x) (h2 : x ≤ b) : ∀ l, some x = some l → -b ≤ l ∧ l ≤ b := fun l h => by cases h; exact ⟨h1, h2⟩
theorem ap_in {b c : Int} {d : Dd} {v : Int} (h : d.In b) (h1 : -c ≤ v) (h2 : v ≤ c) (h0 : 0 ≤ c) : -(b + c) ≤ d.ap v ∧ d.ap v ≤ b + c := by
  obtain ⟨a1, a2, hl, hh⟩ := h
  unfold Dd.ap dn up
  cases el : d.low with
  | none =>
    cases eh : d.high with
    | none => dsimp only; omega
    | some k => have := hh k eh; dsimp only; split <;> omega
  | some l =>
    have := hl l el
    cases eh : d.high with
    | none => dsimp only; split <;> omega
    | some k => have := hh k eh; dsimp only; split <;> split <;> omega
theorem fits {i : Int} (h1 : -(10 ^ 40) ≤ i) (h2 : i ≤ 10 ^ 40) : i.natAbs.log2 < 1920 := by
  refine log_lt (by decide) (Nat.lt_of_le_of_lt (m := 10 ^ 40) (by omega) (by decide))
theorem menu7 : ∀ j : Nat, j < 7 → ∃ z : Int, ([.int 3, .int 5, .int 11, .int 17, .int 29, .int 37, .int 41] : List V)[j]? = some (.int z) ∧ 0 < z ∧ z ≤ 41
  | 0, _ => ⟨_, rfl, by decide, by decide⟩
  | 1, _ => ⟨_, rfl, by decide, by decide⟩
  | 2, _ => ⟨_, rfl, by decide, by decide⟩
  | 3, _ => ⟨_, rfl, by decide, by decide⟩
  | 4, _ => ⟨_, rfl, by decide, by decide⟩
  | 5, _ => ⟨_, rfl, by decide, by decide⟩
  | 6, _ => ⟨_, rfl, by decide, by decide⟩
  | n + 7, h => absurd h (by omega)
theorem menu6 : ∀ j : Nat, j < 6 → ∃ z : Int, ([.int 4, .int 12, .int 1000, .int (10 ^ Int.toNat 9), .int (10 ^ Int.toNat 29), .int (10 ^ Int.toNat 29)] : List V)[j]? = some (.int z) ∧ 1 ≤ z ∧ z ≤ 10 ^ 29
  | 0, _ => ⟨_, rfl, by decide, by decide⟩
  | 1, _ => ⟨_, rfl, by decide, by decide⟩
  | 2, _ => ⟨_, rfl, by decide, by decide⟩
  | 3, _ => ⟨_, rfl, by decide, by decide⟩
  | 4, _ => ⟨_, rfl, by decide, by decide⟩
  | 5, _ => ⟨_, rfl, by decide, by decide⟩
  | n + 6, h => absurd h (by omega)
def PotAt (H : Hp) (p : Addr) : Prop := ∃ a b : Int, H p = some (.lst [.int a, .int b]) ∧ 0 ≤ a ∧ 0 ≤ b ∧ b < 2 ^ 40
theorem PotAt.same {H H' : Hp} {p : Addr} (e : Same H H') (h : PotAt H p) : PotAt H' p := by
  obtain ⟨a, b, h1, h2⟩ := h
  exact ⟨a, b, e _ _ h1, h2⟩
def DeedArg (K : PySem.W.Frag) (H : Hp) (a : Addr) (d : Dd) : Prop := TyX K H (.ref a) (.type "tuple") ∧ SqT K H a d.vs ∧ d.Ok
def Dz (H : Hp) (a : Addr) (d : Dd) : Prop := H a = some (.tup d.vs) ∧ d.In (10 ^ 29 + 3) ∧ d.Ok
theorem Dz.arg {K : PySem.W.Frag} {H : Hp} {a : Addr} {d : Dd} (h : Dz H a d) : DeedArg K H a d := ⟨.base (.tup h.1), SqT.of h.1, h.2.2⟩
theorem Dz.same {H H' : Hp} {a : Addr} {d : Dd} (e : Same H H') (h : Dz H a d) : Dz H' a d := ⟨e _ _ h.1, h.2⟩
def look : Dd := ⟨0, none, none⟩
theorem look_ok : look.Ok := fun _ _ h => nomatch h
theorem look_in {b : Int} (h : 0 ≤ b) : look.In b := in_mk (by omega) (by omega) in_none in_none
theorem pot_ne {H : Hp} {p a : Addr} (h : PotAt H p) (n : H a = none) : a ≠ p := fun z => by obtain ⟨_, _, h1, _⟩ := h; rw [← z, n] at h1; cases h1
/-! ### two deeds as one -/
def wholeD (add : Int) (low high : Option Int) : Dd := if low ≠ none ∧ low = high then ⟨0, low, high⟩ else ⟨add, low, high⟩
theorem wholeD_low {add : Int} {low high : Option Int} : (wholeD add low high).low = low := by unfold wholeD; split <;> rfl
theorem wholeD_high {add : Int} {low high : Option Int} : (wholeD add low high).high = high := by unfold wholeD; split <;> rfl
theorem wholeD_add {add : Int} {low high : Option Int} : (wholeD add low high).add = if low ≠ none ∧ low = high then 0 else add := by unfold wholeD; split <;> rfl
def endBeh (b : Dd) (o p : Option Int) : Option Int := match o with | none => p | some l => some (b.ap l)
def beh (a b : Dd) : Dd := wholeD (a.add + b.add) (endBeh b a.low b.low) (endBeh b a.high b.high)
theorem up_mono {o : Option Int} {x y : Int} (h : x ≤ y) : up o x ≤ up o y := by
  cases o with
  | none => exact h
  | some l =>
    show (if x > l then x else l) ≤ (if y > l then y else l)
    split <;> split <;> omega
theorem dn_mono {o : Option Int} {x y : Int} (h : x ≤ y) : dn o x ≤ dn o y := by
  cases o with
  | none => exact h
  | some l =>
    show (if x < l then x else l) ≤ (if y < l then y else l)
    split <;> split <;> omega
theorem ap_mono (d : Dd) {x y : Int} (h : x ≤ y) : d.ap x ≤ d.ap y := dn_mono (up_mono (by omega))
/-- what is made, by the four ways -/
theorem ap_nn (d : Dd) (v : Int) (h1 : d.low = none) (h2 : d.high = none) : d.ap v = v + d.add := by unfold Dd.ap; rw [h1, h2] <;> rfl
theorem ap_sn (d : Dd) (v l : Int) (h1 : d.low = some l) (h2 : d.high = none) : d.ap v = if v + d.add > l then v + d.add else l := by unfold Dd.ap; rw [h1, h2] <;> rfl
theorem ap_ns (d : Dd) (v h : Int) (h1 : d.low = none) (h2 : d.high = some h) : d.ap v = if v + d.add < h then v + d.add else h := by unfold Dd.ap; rw [h1, h2] <;> rfl
theorem ap_ss (d : Dd) (v l h : Int) (h1 : d.low = some l) (h2 : d.high = some h) : d.ap v = if (if v + d.add > l then v + d.add else l) < h then (if v + d.add > l then v + d.add else l) else h := by unfold Dd.ap; rw [h1, h2] <;> rfl
/-- facts for omega -/
theorem ap_cases (d : Dd) (ok : d.Ok) (v : Int) :
    (∀ l, d.low = some l → l ≤ d.ap v ∧ (v + d.add ≤ l → d.ap v = l)) ∧ (∀ h, d.high = some h → d.ap v ≤ h ∧ (h ≤ v + d.add → d.ap v = h)) ∧
    ((d.low = none ∨ ∃ l, d.low = some l ∧ l ≤ v + d.add) → (d.high = none ∨ ∃ h, d.high = some h ∧ v + d.add ≤ h) → d.ap v = v + d.add) := by
  cases e1 : d.low with
  | none =>
    cases e2 : d.high with
    | none =>
      rw [ap_nn d v e1 e2]
      exact ⟨fun _ h => (nomatch h), fun _ h => (nomatch h), fun _ _ => rfl⟩
    | some h =>
      rw [ap_ns d v h e1 e2]
      refine ⟨fun _ h => (nomatch h), fun k hk => ?_, fun _ h2 => ?_⟩
      · cases hk; split <;> omega
      · rcases h2 with h2 | ⟨k, hk, h2⟩
        · cases h2
        · cases hk; split <;> omega
  | some l =>
    cases e2 : d.high with
    | none =>
      rw [ap_sn d v l e1 e2]
      refine ⟨fun k hk => ?_, fun _ h => (nomatch h), fun h1 _ => ?_⟩
      · cases hk; split <;> omega
      · rcases h1 with h1 | ⟨k, hk, h1⟩
        · cases h1
        · cases hk; split <;> omega
    | some h =>
      have o := ok l h e1 e2
      rw [ap_ss d v l h e1 e2]
      refine ⟨fun k hk => ?_, fun k hk => ?_, fun h1 h2 => ?_⟩
      · cases hk
        by_cases c : v + d.add > l
        · rw [if_pos c]; split <;> omega
        · rw [if_neg c]; split <;> omega
      · cases hk
        by_cases c : v + d.add > l
        · rw [if_pos c]; split <;> omega
        · rw [if_neg c]; split <;> omega
      · rcases h1 with h1 | ⟨k, hk, h1⟩
        · cases h1
        rcases h2 with h2 | ⟨k', hk', h2⟩
        · cases h2
        cases hk; cases hk'
        by_cases c : v + d.add > l
        · rw [if_pos c]; split <;> omega
        · rw [if_neg c]; split <;> omega
theorem beh_ok {a b : Dd} (ha : a.Ok) (hb : b.Ok) : (beh a b).Ok := by
  intro l h h1 h2
  unfold beh at h1 h2 ⊢
  rw [wholeD_low] at h1
  rw [wholeD_high] at h2
  rw [wholeD_add]
  have key : l ≤ h := by
    unfold endBeh at h1 h2
    cases e1 : a.low with
    | none =>
      rw [e1] at h1
      cases e2 : a.high with
      | none =>
        rw [e2] at h2
        have := hb l h h1 h2
        omega
      | some k =>
        rw [e2] at h2
        cases h2
        exact ((ap_cases b hb k).1 l h1).1
    | some j =>
      rw [e1] at h1
      cases h1
      cases e2 : a.high with
      | none =>
        rw [e2] at h2
        exact ((ap_cases b hb j).2.1 h h2).1
      | some k =>
        rw [e2] at h2
        cases h2
        have := ha j k e1 e2
        exact ap_mono b (by omega)
  by_cases c : l = h
  · right
    refine ⟨c, if_pos ⟨by rw [h1]; exact Option.some_ne_none l, by rw [h1, h2, c]⟩⟩
  · left; omega
/-- the ends of a deed -/
theorem ap_low {d : Dd} (ok : d.Ok) {l v : Int} (h : d.low = some l) (hv : v + d.add ≤ l) : d.ap v = l := ((ap_cases d ok v).1 l h).2 hv
theorem ap_high {d : Dd} (ok : d.Ok) {l v : Int} (h : d.high = some l) (hv : l ≤ v + d.add) : d.ap v = l := ((ap_cases d ok v).2.1 l h).2 hv
theorem whole_ap {add : Int} {low high : Option Int} {v w : Int} (hl : ∀ l, low = some l → l ≤ w) (hh : ∀ h, high = some h → w ≤ h)
    (h1 : (∀ l, low = some l → v + add ≤ l → w = l)) (h2 : (∀ h, high = some h → h ≤ v + add → w = h))
    (h3 : (low = none ∨ ∃ l, low = some l ∧ l ≤ v + add) → (high = none ∨ ∃ h, high = some h ∧ v + add ≤ h) → w = v + add) : (wholeD add low high).ap v = w := by
  cases e1 : low with
  | none =>
    have e3 : wholeD add none high = ⟨add, none, high⟩ := by unfold wholeD; rw [if_neg (fun z => z.1 rfl)]
    rw [e3]
    cases e2 : high with
    | none => rw [ap_nn _ _ rfl rfl]; exact (h3 (.inl e1) (.inl e2)).symm
    | some h =>
      rw [ap_ns _ _ h rfl rfl]
      show (if v + add < h then v + add else h) = w
      have a2 := h2 h e2
      have a3 := h3 (.inl e1)
      split
      · exact (a3 (.inr ⟨h, e2, by omega⟩)).symm
      · exact (a2 (by omega)).symm
  | some l =>
    have b1 := hl l e1
    cases e2 : high with
    | none =>
      have e3 : wholeD add (some l) none = ⟨add, some l, none⟩ := by unfold wholeD; rw [if_neg (fun z => nomatch z.2)]
      rw [e3, ap_sn _ _ l rfl rfl]
      show (if v + add > l then v + add else l) = w
      have a1 := h1 l e1
      split
      · exact (h3 (.inr ⟨l, e1, by omega⟩) (.inl e2)).symm
      · exact (a1 (by omega)).symm
    | some h =>
      have b2 := hh h e2
      by_cases c : l = h
      · subst c
        have e3 : wholeD add (some l) (some l) = ⟨0, some l, some l⟩ := by unfold wholeD; rw [if_pos ⟨Option.some_ne_none l, rfl⟩]
        rw [e3, ap_ss _ _ l l rfl rfl]
        split <;> omega
      · have e3 : wholeD add (some l) (some h) = ⟨add, some l, some h⟩ := by unfold wholeD; rw [if_neg (fun z => c (Option.some.inj z.2))]
        rw [e3, ap_ss _ _ l h rfl rfl]
        show (if (if v + add > l then v + add else l) < h then (if v + add > l then v + add else l) else h) = w
        have a1 := h1 l e1
        have a2 := h2 h e2
        by_cases c1 : v + add > l
        · rw [if_pos c1]
          split
          · exact (h3 (.inr ⟨l, e1, by omega⟩) (.inr ⟨h, e2, by omega⟩)).symm
          · exact (a2 (by omega)).symm
        · rw [if_neg c1]
          have := a1 (by omega)
          split <;> omega
theorem beh_ap {a b : Dd} (ha : a.Ok) (hb : b.Ok) (v : Int) : (beh a b).ap v = b.ap (a.ap v) := by
  obtain ⟨A1, A2, A3⟩ := ap_cases a ha v
  obtain ⟨B1, B2, B3⟩ := ap_cases b hb (a.ap v)
  have P3 : ∀ l, endBeh b a.low b.low = some l → v + (a.add + b.add) ≤ l → b.ap (a.ap v) = l := by
    intro l hl hv
    unfold endBeh at hl
    cases e : a.low with
    | none =>
      rw [e] at hl
      refine (B1 l hl).2 ?_
      cases e2 : a.high with
      | none => rw [A3 (.inl e) (.inl e2)]; omega
      | some k =>
        by_cases c : v + a.add ≤ k
        · rw [A3 (.inl e) (.inr ⟨k, e2, c⟩)]; omega
        · rw [(A2 k e2).2 (by omega)]; omega
    | some j =>
      rw [e] at hl
      cases hl
      -- v + a.add + b.add ≤ b.ap j
      by_cases c : v + a.add ≤ j
      · rw [(A1 j e).2 c]
      · have m : b.ap j ≤ b.ap (a.ap v) := ap_mono b (A1 j e).1
        have n : b.ap (a.ap v) ≤ b.ap (v + a.add) := by
          refine ap_mono b ?_
          cases e2 : a.high with
          | none => rw [A3 (.inr ⟨j, e, by omega⟩) (.inl e2)]; omega
          | some k =>
            by_cases c : v + a.add ≤ k
            · rw [A3 (.inr ⟨j, e, by omega⟩) (.inr ⟨k, e2, c⟩)]; omega
            · rw [(A2 k e2).2 (by omega)]; omega
        -- b at v + a.add is at most max of its sum and its low end
        obtain ⟨C1, C2, C3⟩ := ap_cases b hb (v + a.add)
        obtain ⟨D1, D2, D3⟩ := ap_cases b hb j
        cases f1 : b.low with
        | none =>
          cases f2 : b.high with
          | none => have := C3 (.inl f1) (.inl f2); have := D3 (.inl f1) (.inl f2); omega
          | some k =>
            have := C2 k f2; have := D2 k f2
            by_cases c3 : v + a.add + b.add ≤ k
            · have := C3 (.inl f1) (.inr ⟨k, f2, c3⟩); have := D3 (.inl f1) (.inr ⟨k, f2, by omega⟩); omega
            · omega
        | some i =>
          have := C1 i f1; have := D1 i f1
          cases f2 : b.high with
          | none =>
            by_cases c3 : i ≤ v + a.add + b.add
            · have := C3 (.inr ⟨i, f1, c3⟩) (.inl f2)
              by_cases c4 : i ≤ j + b.add
              · have := D3 (.inr ⟨i, f1, c4⟩) (.inl f2); omega
              · omega
            · omega
          | some k =>
            have := C2 k f2; have := D2 k f2
            by_cases c3 : i ≤ v + a.add + b.add
            · by_cases c5 : v + a.add + b.add ≤ k
              · have := C3 (.inr ⟨i, f1, c3⟩) (.inr ⟨k, f2, c5⟩)
                by_cases c4 : i ≤ j + b.add
                · have := D3 (.inr ⟨i, f1, c4⟩) (.inr ⟨k, f2, by omega⟩); omega
                · omega
              · omega
            · omega
  have P4 : ∀ h, endBeh b a.high b.high = some h → h ≤ v + (a.add + b.add) → b.ap (a.ap v) = h := by
    intro h hh hv
    unfold endBeh at hh
    cases e : a.high with
    | none =>
      rw [e] at hh
      refine (B2 h hh).2 ?_
      cases e2 : a.low with
      | none => rw [A3 (.inl e2) (.inl e)]; omega
      | some k =>
        by_cases c : k ≤ v + a.add
        · rw [A3 (.inr ⟨k, e2, c⟩) (.inl e)]; omega
        · rw [(A1 k e2).2 (by omega)]; omega
    | some j =>
      rw [e] at hh
      cases hh
      by_cases c : j ≤ v + a.add
      · rw [(A2 j e).2 c]
      · have m : b.ap (a.ap v) ≤ b.ap j := ap_mono b (A2 j e).1
        have n : b.ap (v + a.add) ≤ b.ap (a.ap v) := by
          refine ap_mono b ?_
          cases e2 : a.low with
          | none => rw [A3 (.inl e2) (.inr ⟨j, e, by omega⟩)]; omega
          | some k =>
            by_cases c : k ≤ v + a.add
            · rw [A3 (.inr ⟨k, e2, c⟩) (.inr ⟨j, e, by omega⟩)]; omega
            · rw [(A1 k e2).2 (by omega)]; omega
        obtain ⟨C1, C2, C3⟩ := ap_cases b hb (v + a.add)
        obtain ⟨D1, D2, D3⟩ := ap_cases b hb j
        cases f1 : b.high with
        | none =>
          cases f2 : b.low with
          | none => have := C3 (.inl f2) (.inl f1); have := D3 (.inl f2) (.inl f1); omega
          | some k =>
            have := C1 k f2; have := D1 k f2
            by_cases c3 : k ≤ v + a.add + b.add
            · have := C3 (.inr ⟨k, f2, c3⟩) (.inl f1); have := D3 (.inr ⟨k, f2, by omega⟩) (.inl f1); omega
            · omega
        | some i =>
          have := C2 i f1; have := D2 i f1
          cases f2 : b.low with
          | none =>
            by_cases c3 : v + a.add + b.add ≤ i
            · have := C3 (.inl f2) (.inr ⟨i, f1, c3⟩)
              by_cases c4 : j + b.add ≤ i
              · have := D3 (.inl f2) (.inr ⟨i, f1, c4⟩); omega
              · omega
            · omega
          | some k =>
            have := C1 k f2; have := D1 k f2
            by_cases c3 : v + a.add + b.add ≤ i
            · by_cases c5 : k ≤ v + a.add + b.add
              · have := C3 (.inr ⟨k, f2, c5⟩) (.inr ⟨i, f1, c3⟩)
                by_cases c4 : j + b.add ≤ i
                · have := D3 (.inr ⟨k, f2, by omega⟩) (.inr ⟨i, f1, c4⟩); omega
                · omega
              · omega
            · omega
  unfold beh
  refine whole_ap (fun l hl => ?_) (fun h hh => ?_) P3 P4 (fun h1 h2 => ?_)
  · unfold endBeh at hl
    cases e : a.low with
    | none => rw [e] at hl; exact (B1 l hl).1
    | some j => rw [e] at hl; cases hl; exact ap_mono b (A1 j e).1
  · unfold endBeh at hh
    cases e : a.high with
    | none => rw [e] at hh; exact (B2 h hh).1
    | some j => rw [e] at hh; cases hh; exact ap_mono b (A2 j e).1
  · -- between the ends both add
    by_cases s1 : ∃ l, endBeh b a.low b.low = some l ∧ v + (a.add + b.add) ≤ l
    · obtain ⟨l, s1, s2⟩ := s1
      rw [P3 l s1 s2]
      rcases h1 with h1 | ⟨l', h1, h4⟩
      · rw [s1] at h1; cases h1
      · rw [s1] at h1; cases h1; omega
    by_cases s2 : ∃ l, endBeh b a.high b.high = some l ∧ l ≤ v + (a.add + b.add)
    · obtain ⟨l, s2, s3⟩ := s2
      rw [P4 l s2 s3]
      rcases h2 with h2 | ⟨l', h2, h4⟩
      · rw [s2] at h2; cases h2
      · rw [s2] at h2; cases h2; omega
    have h1s : ∀ l, endBeh b a.low b.low = some l → l < v + (a.add + b.add) := fun l hl => Int.not_le.mp fun z => s1 ⟨l, hl, z⟩
    have h2s : ∀ l, endBeh b a.high b.high = some l → v + (a.add + b.add) < l := fun l hl => Int.not_le.mp fun z => s2 ⟨l, hl, z⟩
    have a1 : a.low = none ∨ ∃ l, a.low = some l ∧ l ≤ v + a.add := by
      cases e : a.low with
      | none => exact .inl rfl
      | some j =>
        right
        refine ⟨j, rfl, ?_⟩
        rcases h1 with h1 | ⟨l, h1, h4⟩
        · unfold endBeh at h1; rw [e] at h1; cases h1
        have st := h1s l h1
        unfold endBeh at h1; rw [e] at h1; cases h1
        by_cases c : j ≤ v + a.add
        · exact c
        obtain ⟨D1, D2, D3⟩ := ap_cases b hb j
        exfalso
        cases f2 : b.high with
        | none =>
          cases f1 : b.low with
          | none => have := D3 (.inl f1) (.inl f2); omega
          | some i => have := D1 i f1; by_cases c4 : i ≤ j + b.add; (have := D3 (.inr ⟨i, f1, c4⟩) (.inl f2); omega); omega
        | some k =>
          have := D2 k f2
          by_cases c5 : j + b.add ≤ k
          · cases f1 : b.low with
            | none => have := D3 (.inl f1) (.inr ⟨k, f2, c5⟩); omega
            | some i => have := D1 i f1; by_cases c4 : i ≤ j + b.add; (have := D3 (.inr ⟨i, f1, c4⟩) (.inr ⟨k, f2, c5⟩); omega); omega
          · have e5 : b.ap j = k := this.2 (by omega)
            -- the upper end is met: then high of both is k
            rcases h2 with h2 | ⟨h, h2, h6⟩
            · unfold endBeh at h2; cases e7 : a.high with
              | none => rw [e7] at h2; rw [f2] at h2; cases h2
              | some m => rw [e7] at h2; cases h2
            · unfold endBeh at h2; cases e7 : a.high with
              | none => rw [e7] at h2; rw [f2] at h2; cases h2; omega
              | some m =>
                rw [e7] at h2; cases h2
                have o := ha j m e e7
                have q1 := ap_mono b (show j ≤ m by omega)
                have q2 := ((ap_cases b hb m).2.1 k f2).1
                omega
    have a2 : a.high = none ∨ ∃ l, a.high = some l ∧ v + a.add ≤ l := by
      cases e : a.high with
      | none => exact .inl rfl
      | some j =>
        right
        refine ⟨j, rfl, ?_⟩
        rcases h2 with h2 | ⟨l, h2, h4⟩
        · unfold endBeh at h2; rw [e] at h2; cases h2
        have st := h2s l h2
        unfold endBeh at h2; rw [e] at h2; cases h2
        by_cases c : v + a.add ≤ j
        · exact c
        obtain ⟨D1, D2, D3⟩ := ap_cases b hb j
        exfalso
        cases f2 : b.low with
        | none =>
          cases f1 : b.high with
          | none => have := D3 (.inl f2) (.inl f1); omega
          | some i => have := D2 i f1; by_cases c4 : j + b.add ≤ i; (have := D3 (.inl f2) (.inr ⟨i, f1, c4⟩); omega); omega
        | some k =>
          have := D1 k f2
          by_cases c5 : k ≤ j + b.add
          · cases f1 : b.high with
            | none => have := D3 (.inr ⟨k, f2, c5⟩) (.inl f1); omega
            | some i => have := D2 i f1; by_cases c4 : j + b.add ≤ i; (have := D3 (.inr ⟨k, f2, c5⟩) (.inr ⟨i, f1, c4⟩); omega); omega
          · have e5 : b.ap j = k := this.2 (by omega)
            rcases h1 with h1 | ⟨h, h1, h6⟩
            · unfold endBeh at h1; cases e7 : a.low with
              | none => rw [e7] at h1; rw [f2] at h1; cases h1
              | some m => rw [e7] at h1; cases h1
            · unfold endBeh at h1; cases e7 : a.low with
              | none => rw [e7] at h1; rw [f2] at h1; cases h1; omega
              | some m =>
                rw [e7] at h1; cases h1
                have o := ha m j e7 e
                have q1 := ap_mono b (show m ≤ j by omega)
                have q2 := ((ap_cases b hb m).1 k f2).1
                omega
    have ea := A3 a1 a2
    rw [ea] at B1 B2 B3 ⊢
    have b1 : b.low = none ∨ ∃ l, b.low = some l ∧ l ≤ v + a.add + b.add := by
      cases f : b.low with
      | none => exact .inl rfl
      | some i =>
        refine .inr ⟨i, rfl, ?_⟩
        rcases h1 with h1 | ⟨l, h1, h4⟩
        · unfold endBeh at h1; cases e7 : a.low with
          | none => rw [e7] at h1; rw [f] at h1; cases h1
          | some m => rw [e7] at h1; cases h1
        · unfold endBeh at h1; cases e7 : a.low with
          | none => rw [e7] at h1; rw [f] at h1; cases h1; omega
          | some m => rw [e7] at h1; cases h1; have := ((ap_cases b hb m).1 i f).1; omega
    have b2 : b.high = none ∨ ∃ l, b.high = some l ∧ v + a.add + b.add ≤ l := by
      cases f : b.high with
      | none => exact .inl rfl
      | some i =>
        refine .inr ⟨i, rfl, ?_⟩
        rcases h2 with h2 | ⟨l, h2, h4⟩
        · unfold endBeh at h2; cases e7 : a.high with
          | none => rw [e7] at h2; rw [f] at h2; cases h2
          | some m => rw [e7] at h2; cases h2
        · unfold endBeh at h2; cases e7 : a.high with
          | none => rw [e7] at h2; rw [f] at h2; cases h2; omega
          | some m => rw [e7] at h2; cases h2; have := ((ap_cases b hb m).2.1 i f).1; omega
    rw [B3 b1 b2]; omega
theorem beh_in {a b : Dd} {x y : Int} (ha : a.In x) (hb : b.In y) (h0 : 0 ≤ x) (h1 : 0 ≤ y) : (beh a b).In (y + x) := by
  obtain ⟨a1, a2, a3, a4⟩ := ha
  have hb' := hb
  obtain ⟨b1, b2, b3, b4⟩ := hb
  refine ⟨?_, ?_, fun l hl => ?_, fun l hl => ?_⟩
  · unfold beh; rw [wholeD_add]; split <;> omega
  · unfold beh; rw [wholeD_add]; split <;> omega
  · unfold beh at hl; rw [wholeD_low] at hl; unfold endBeh at hl
    cases e : a.low with
    | none => rw [e] at hl; have := b3 l hl; omega
    | some j => rw [e] at hl; cases hl; exact ap_in hb' (a3 j e).1 (a3 j e).2 h0
  · unfold beh at hl; rw [wholeD_high] at hl; unfold endBeh at hl
    cases e : a.high with
    | none => rw [e] at hl; have := b4 l hl; omega
    | some j => rw [e] at hl; cases hl; exact ap_in hb' (a4 j e).1 (a4 j e).2 h0
/-- far out a deed shows its ends -/
theorem far_low {d : Dd} {b F : Int} (ok : d.Ok) (i : d.In b) (hF : 3 * b + 2 ≤ F) (h0 : 0 ≤ b) : (if d.ap (-F - 1) = d.ap (-F) then some (d.ap (-F)) else none) = d.low := by
  obtain ⟨i1, i2, i3, i4⟩ := i
  cases e : d.low with
  | some l =>
    have := i3 l e
    rw [ap_low ok e (show -F - 1 + d.add ≤ l by omega), ap_low ok e (show -F + d.add ≤ l by omega), if_pos rfl]
  | none =>
    have k : ∀ v : Int, v ≤ -F → d.ap v = v + d.add := fun v hv => by
      refine (ap_cases d ok v).2.2 (.inl e) ?_
      cases f : d.high with
      | none => exact .inl rfl
      | some h => have := i4 h f; exact .inr ⟨h, rfl, by omega⟩
    rw [k _ (by omega), k _ (by omega), if_neg (by omega)]
theorem far_high {d : Dd} {b F : Int} (ok : d.Ok) (i : d.In b) (hF : 3 * b + 2 ≤ F) (h0 : 0 ≤ b) : (if d.ap F = d.ap (F + 1) then some (d.ap F) else none) = d.high := by
  obtain ⟨i1, i2, i3, i4⟩ := i
  cases e : d.high with
  | some l =>
    have := i4 l e
    rw [ap_high ok e (show l ≤ F + 1 + d.add by omega), ap_high ok e (show l ≤ F + d.add by omega), if_pos rfl]
  | none =>
    have k : ∀ v : Int, F ≤ v → d.ap v = v + d.add := fun v hv => by
      refine (ap_cases d ok v).2.2 ?_ (.inl e)
      cases f : d.low with
      | none => exact .inl rfl
      | some h => have := i3 h f; exact .inr ⟨h, rfl, by omega⟩
    rw [k _ (by omega), k _ (by omega), if_neg (by omega)]
theorem bound_of (d : Dd) : ∃ b, 0 ≤ b ∧ d.In b := by
  obtain ⟨a, l, h⟩ := d
  refine ⟨a.natAbs + (l.getD 0).natAbs + (h.getD 0).natAbs, by omega, in_mk (by omega) (by omega) (fun x hx => ?_) fun x hx => ?_⟩
  · cases hx; simp only [Option.getD_some]; omega
  · cases hx; simp only [Option.getD_some]; omega
theorem In.le {d : Dd} {a b : Int} (h : d.In a) (e : a ≤ b) : d.In b := ⟨by have := h.1; omega, by have := h.2.1; omega, fun l hl => by have := h.2.2.1 l hl; omega, fun l hl => by have := h.2.2.2 l hl; omega⟩
/-- there is just one deed that makes the same of all -/
theorem ap_ext {d e : Dd} (hd : d.Ok) (he : e.Ok) (h : ∀ v, d.ap v = e.ap v) : d = e := by
  obtain ⟨b, b0, hb⟩ := bound_of d
  obtain ⟨c, c0, hc⟩ := bound_of e
  have l1 := far_low (F := 3 * (b + c) + 2) hd (In.le hb (show b ≤ b + c by omega)) (by omega) (by omega)
  have l2 := far_low (F := 3 * (b + c) + 2) he (In.le hc (show c ≤ b + c by omega)) (by omega) (by omega)
  have h1 := far_high (F := 3 * (b + c) + 2) hd (In.le hb (show b ≤ b + c by omega)) (by omega) (by omega)
  have h2 := far_high (F := 3 * (b + c) + 2) he (In.le hc (show c ≤ b + c by omega)) (by omega) (by omega)
  rw [h, h, l2] at l1
  rw [h, h, h2] at h1
  have ea : d.add = e.add := by
    cases e1 : d.low with
    | none =>
      cases e2 : d.high with
      | none =>
        have := h 0
        rw [ap_nn d 0 e1 e2, ap_nn e 0 (l1.trans e1) (h1.trans e2)] at this
        omega
      | some k =>
        have := h (k - 1 - b - c)
        have q1 := hb.1; have q2 := hb.2.1; have q3 := hc.1; have q4 := hc.2.1
        rw [ap_ns d _ k e1 e2, ap_ns e _ k (l1.trans e1) (h1.trans e2), if_pos (by omega), if_pos (by omega)] at this
        omega
    | some l =>
      cases e2 : d.high with
      | none =>
        have := h (l + 1 + b + c)
        have q1 := hb.1; have q2 := hb.2.1; have q3 := hc.1; have q4 := hc.2.1
        rw [ap_sn d _ l e1 e2, ap_sn e _ l (l1.trans e1) (h1.trans e2), if_pos (by omega), if_pos (by omega)] at this
        omega
      | some k =>
        have o1 := hd l k e1 e2
        have o2 := he l k (l1.trans e1) (h1.trans e2)
        by_cases c1 : l = k
        · omega
        · have g1 := h (l - d.add)
          have g2 := h (l - d.add + 1)
          obtain ⟨C1, C2, C3⟩ := ap_cases e he (l - d.add)
          obtain ⟨D1, D2, D3⟩ := ap_cases e he (l - d.add + 1)
          rw [ap_low hd e1 (by omega)] at g1
          rw [(ap_cases d hd (l - d.add + 1)).2.2 (.inr ⟨l, e1, by omega⟩) (.inr ⟨k, e2, by omega⟩)] at g2
          have := C1 l (l1.trans e1); have := C2 k (h1.trans e2); have := D1 l (l1.trans e1); have := D2 k (h1.trans e2)
          by_cases c2 : l ≤ l - d.add + e.add
          · by_cases c3 : l - d.add + e.add ≤ k
            · have := C3 (.inr ⟨l, l1.trans e1, c2⟩) (.inr ⟨k, h1.trans e2, c3⟩); omega
            · omega
          · by_cases c3 : l ≤ l - d.add + 1 + e.add
            · have := D3 (.inr ⟨l, l1.trans e1, c3⟩) (.inr ⟨k, h1.trans e2, by omega⟩); omega
            · omega
  obtain ⟨a1, a2, a3⟩ := d
  obtain ⟨b1, b2, b3⟩ := e
  cases ea; cases l1; cases h1
  rfl
theorem beh_assoc {a b c : Dd} (ha : a.Ok) (hb : b.Ok) (hc : c.Ok) : beh (beh a b) c = beh a (beh b c) :=
  ap_ext (beh_ok (beh_ok ha hb) hc) (beh_ok ha (beh_ok hb hc)) fun v => by rw [beh_ap (beh_ok ha hb) hc, beh_ap ha hb, beh_ap ha (beh_ok hb hc), beh_ap hb hc]
theorem look_ap (v : Int) : look.ap v = v := by show v + 0 = v; omega
theorem beh_look {a : Dd} (ha : a.Ok) : beh a look = a := ap_ext (beh_ok ha look_ok) ha fun v => by rw [beh_ap ha look_ok, look_ap]
theorem look_beh {a : Dd} (ha : a.Ok) : beh look a = a := ap_ext (beh_ok look_ok ha) ha fun v => by rw [beh_ap look_ok ha, look_ap]
/-! ### a deed as data -/
def po : Option Int → PyData
  | none => .none
  | some i => .int i
def pd (d : Dd) : PyData := .tuple [.int d.add, po d.low, po d.high]
theorem po_dp {K : PySem.W.Frag} {H : Hp} (o : Option Int) : Dp K H (oV o) (po o) := by
  cases o with
  | none => exact .non
  | some i => exact .int i
theorem pd_dp {K : PySem.W.Frag} {H : Hp} {a : Addr} {d : Dd} (h : SqT K H a d.vs) : Dp K H (.ref a) (pd d) := .tup h (.cons (.int _) (.cons (po_dp _) (.cons (po_dp _) .nil)))
theorem pd_sh (d : Dd) : SeqAt.shaped (pd d) = true := by
  obtain ⟨a, l, h⟩ := d
  cases l <;> cases h <;> rfl
theorem pd_refl (d : Dd) : PyData.eqv (pd d) (pd d) = true := SeqAt.eqv_refl _ (SeqAt.canLay_of_shaped (pd_sh d))
/-- a new tuple with a deed -/
def NewD (H : Hp) (Q : VK) (d : Dd) : Prop := ∀ (a : Addr) (H' : Hp), Same H H' → H a = none → H' a = some (.tup d.vs) → Q (.ref a) H'
abbrev Fx : Int := 10 ^ Int.toNat 64 * 10 ^ Int.toNat 26
theorem Fx_eq : Fx = 10 ^ 90 := by decide
theorem take_snoc {α : Type} {l : List α} {i : Nat} {x : α} (h : l[i]? = some x) : l.take (i + 1) = l.take i ++ [x] := by rw [List.take_succ, h] <;> rfl
/-- a deed's tuple that was made here -/
def Da (H : Hp) (a : Addr) (d : Dd) : Prop := H a = some (.tup d.vs) ∧ d.In (10 ^ 80) ∧ d.Ok
theorem Da.arg {K : PySem.W.Frag} {H : Hp} {a : Addr} {d : Dd} (h : Da H a d) : DeedArg K H a d := ⟨.base (.tup h.1), SqT.of h.1, h.2.2⟩
theorem Da.same {H H' : Hp} {a : Addr} {d : Dd} (e : Same H H') (h : Da H a d) : Da H' a d := ⟨e _ _ h.1, h.2⟩
theorem Da.sq {K : PySem.W.Frag} {H : Hp} {a : Addr} {d : Dd} (h : Da H a d) : SqT K H a d.vs := SqT.of h.1
theorem Da.dp {K : PySem.W.Frag} {H : Hp} {a : Addr} {d : Dd} (h : Da H a d) : Dp K H (.ref a) (pd d) := pd_dp h.sq
theorem ne_pd {d : Dd} : (!PyData.eqv (pd d) (pd d)) = false := by rw [pd_refl] <;> rfl
theorem addT {x : Int} {k : Bool} {p : Prop} [Decidable p] (h : k = true ↔ ¬ p) : x * (if k = true then 1 else 0) = if p then 0 else x := by
  by_cases c : p
  · rw [if_pos c, if_neg (fun z => h.mp z c)]; exact Int.mul_zero _
  · rw [if_neg c, if_pos (h.mpr c)]; exact Int.mul_one _
/-! ### shown data: one look -/
structure Sh (d : PyData) (n c : Nat) : Prop where
  s : d.showable = true
  dep : d.depth ≤ n
  c : cst d ≤ c
theorem shAll {α : Type} {f : α → PyData} {n c : Nat} : ∀ {xs : List α}, (∀ x ∈ xs, Sh (f x) n c) → PyData.showableAll (xs.map f) = true ∧ PyData.depthAll (xs.map f) ≤ n ∧ csts (xs.map f) ≤ (c + 4) * xs.length
  | [], _ => ⟨rfl, Nat.zero_le _, Nat.zero_le _⟩
  | x :: r, h => by
    obtain ⟨h1, h2, h3⟩ := shAll (xs := r) fun y hy => h y (List.mem_cons_of_mem _ hy)
    obtain ⟨g1, g2, g3⟩ := h x List.mem_cons_self
    refine ⟨?_, ?_, ?_⟩
    · simp only [List.map_cons, PyData.showableAll, g1, h1, Bool.and_self]
    · simp only [List.map_cons, PyData.depthAll]; omega
    · simp only [List.map_cons, csts, List.length_cons, Nat.mul_add, Nat.mul_one]; omega
theorem Sh.tup {α : Type} {f : α → PyData} {n c m k j : Nat} {xs : List α} (h : ∀ x ∈ xs, Sh (f x) n c) (hm : n + 1 ≤ m) (hl : xs.length ≤ j) (hk : (c + 4) * j + 4 ≤ k) : Sh (.tuple (xs.map f)) m k := by
  obtain ⟨h1, h2, h3⟩ := shAll h
  have h4 := Nat.mul_le_mul_left (c + 4) hl
  refine ⟨h1, ?_, ?_⟩
  · simp only [PyData.depth]; omega
  · show csts _ + 4 ≤ k; omega
theorem Sh.lst {α : Type} {f : α → PyData} {n c m k j : Nat} {xs : List α} (h : ∀ x ∈ xs, Sh (f x) n c) (hm : n + 1 ≤ m) (hl : xs.length ≤ j) (hk : (c + 4) * j + 4 ≤ k) : Sh (.list (xs.map f)) m k := by
  obtain ⟨h1, h2, h3⟩ := shAll h
  have h4 := Nat.mul_le_mul_left (c + 4) hl
  refine ⟨h1, ?_, ?_⟩
  · simp only [PyData.depth]; omega
  · show csts _ + 4 ≤ k; omega
theorem int_sh {i : Int} (h1 : -(10 ^ 100) ≤ i) (h2 : i ≤ 10 ^ 100) : Sh (.int i) 0 1921 := by
  refine ⟨?_, Nat.le_refl _, Nat.le_refl _⟩
  have : i.natAbs.log2 < 1920 := log_lt (by decide) (Nat.lt_of_le_of_lt (m := 10 ^ 100) (by omega) (by decide))
  simpa [PyData.showable] using this
theorem Sh.mono {d : PyData} {n c n' c' : Nat} (h : Sh d n c) (h1 : n ≤ n') (h2 : c ≤ c') : Sh d n' c' := ⟨h.s, Nat.le_trans h.dep h1, Nat.le_trans h.c h2⟩
theorem rep_ {K : PySem.W.Frag} {σ : L2.St} {H : Hp} {x : V} {d : PyData} {n c : Nat} {Q : VK} (hd : Dp K H x d) (s : Sh d n c) (hn : n ≤ 60 := by decide) (hc : c ≤ 10000000 := by decide) (q : Q (.str d.shown) H) :
    tNil σ H (fun xs H2 => (fun vs H1 => rRepr K vs H1 Q) (x :: xs) H2) :=
  ⟨x, d, rfl, hd, s.s, Nat.le_trans s.dep hn, shown_sz s.s (dp_noDict d x hd) (Nat.le_trans s.c hc), q⟩
theorem dps {α : Type} {K : PySem.W.Frag} {H : Hp} {g : α → V} {f : α → PyData} : ∀ {xs : List α}, (∀ x ∈ xs, Dp K H (g x) (f x)) → DpAll K H (xs.map g) (xs.map f)
  | [], _ => .nil
  | x :: r, h => .cons (h x List.mem_cons_self) (dps fun y hy => h y (List.mem_cons_of_mem _ hy))
theorem po_sh {b : Int} {o : Option Int} (h : ∀ l, o = some l → -b ≤ l ∧ l ≤ b) (hb : b ≤ 10 ^ 100) : Sh (po o) 0 1921 := by
  cases o with
  | none => exact ⟨rfl, Nat.le_refl _, by show 5 ≤ 1921; decide⟩
  | some i => have := h i rfl; exact int_sh (by omega) (by omega)
theorem pd_sh1 {b : Int} {d : Dd} (h : d.In b) (hb : b ≤ 10 ^ 100) : Sh (pd d) 1 6000 := by
  have := h.1; have := h.2.1
  refine Sh.tup (f := id) (n := 0) (c := 1921) (j := 3) (xs := [.int d.add, po d.low, po d.high]) ?_ (Nat.le_refl _) (Nat.le_refl _) (by decide)
  intro x hx
  simp only [List.mem_cons, List.mem_nil_iff, or_false] at hx
  rcases hx with rfl | rfl | rfl
  · exact int_sh (by omega) (by omega)
  · exact po_sh h.2.2.1 hb
  · exact po_sh h.2.2.2 hb
/-! ### boards and asks -/
def BoardAt (H : Hp) (b : Addr) (bs : List Int) : Prop := H b = some (.tup (bs.map V.int)) ∧ 1 ≤ bs.length ∧ bs.length ≤ 16
def Wi (c : Int) (bs : List Int) : Prop := ∀ x ∈ bs, -c ≤ x ∧ x ≤ c
theorem BoardAt.same {H H' : Hp} {b : Addr} {bs : List Int} (e : Same H H') (h : BoardAt H b bs) : BoardAt H' b bs := ⟨e _ _ h.1, h.2⟩
structure Ak where
  a : Addr
  hand : Int
  box : Nat
  da : Addr
  d : Dd
def Ak.vs (x : Ak) : List V := [.int x.hand, .int x.box, .ref x.da]
def Ak.at_ (H : Hp) (nb : Nat) (x : Ak) : Prop := H x.a = some (.tup x.vs) ∧ Da H x.da x.d ∧ 0 ≤ x.hand ∧ x.hand < 16 ∧ x.box < nb
def AsksAt (H : Hp) (k : Addr) (as : List Ak) (nb : Nat) : Prop := H k = some (.tup (as.map fun x => .ref x.a)) ∧ as.length ≤ 40 ∧ ∀ x ∈ as, x.at_ H nb
theorem Ak.at_.same {H H' : Hp} {nb : Nat} {x : Ak} (e : Same H H') (h : x.at_ H nb) : x.at_ H' nb := ⟨e _ _ h.1, h.2.1.same e, h.2.2⟩
theorem AsksAt.same {H H' : Hp} {k : Addr} {as : List Ak} {nb : Nat} (e : Same H H') (h : AsksAt H k as nb) : AsksAt H' k as nb := ⟨e _ _ h.1, h.2.1, fun x hx => (h.2.2 x hx).same e⟩
theorem Da.but {p : Addr} {ys : List V} {H H' : Hp} {a : Addr} {d : Dd} (e : But p H H') (hp : H p = some (.lst ys)) (h : Da H a d) : Da H' a d := ⟨e _ _ (ne_of h.1 hp (by intro z; cases z)) h.1, h.2⟩
theorem Ak.at_.but {p : Addr} {ys : List V} {H H' : Hp} {nb : Nat} {x : Ak} (e : But p H H') (hp : H p = some (.lst ys)) (h : x.at_ H nb) : x.at_ H' nb := ⟨e _ _ (ne_of h.1 hp (by intro z; cases z)) h.1, h.2.1.but e hp, h.2.2⟩
def Ak.pd (x : Ak) : PyData := .tuple [.int x.hand, .int x.box, Toy.pd x.d]
theorem Ak.at_.dp {K : PySem.W.Frag} {H : Hp} {nb : Nat} {x : Ak} (h : x.at_ H nb) : Dp K H (.ref x.a) x.pd := .tup (SqT.of h.1) (.cons (.int _) (.cons (.int _) (.cons h.2.1.dp .nil)))
theorem Ak.at_.sh {H : Hp} {nb : Nat} {x : Ak} (h : x.at_ H nb) (hn : nb ≤ 16) : Sh x.pd 2 19000 := by
  refine Sh.tup (f := id) (n := 1) (c := 6000) (j := 3) (xs := [.int x.hand, .int x.box, Toy.pd x.d]) ?_ (Nat.le_refl _) (Nat.le_refl _) (by decide)
  have := h.2.2
  intro y hy
  simp only [List.mem_cons, List.mem_nil_iff, or_false] at hy
  rcases hy with rfl | rfl | rfl
  · exact (int_sh (by omega) (by omega)).mono (by decide) (by decide)
  · exact (int_sh (by omega) (by omega)).mono (by decide) (by decide)
  · exact pd_sh1 h.2.1.2.1 (by decide)
def intsD (bs : List Int) : PyData := .tuple (bs.map PyData.int)
theorem ints_sh1 {bs : List Int} {c : Int} {n : Nat} (h : Wi c bs) (hc : c ≤ 10 ^ 100) (hn : bs.length ≤ n) : Sh (intsD bs) 1 (1925 * n + 4) :=
  Sh.tup (n := 0) (c := 1921) (j := n) (fun x hx => have := h x hx; int_sh (by omega) (by omega)) (Nat.le_refl _) hn (by omega)
theorem BoardAt.dp {K : PySem.W.Frag} {H : Hp} {b : Addr} {bs : List Int} (h : BoardAt H b bs) : Dp K H (.ref b) (intsD bs) := tupI_dp (SqT.of h.1)
def akD (as : List Ak) : PyData := .tuple (as.map Ak.pd)
theorem AsksAt.dp {K : PySem.W.Frag} {H : Hp} {k : Addr} {as : List Ak} {nb : Nat} (h : AsksAt H k as nb) : Dp K H (.ref k) (akD as) := .tup (SqT.of h.1) (dps fun x hx => (h.2.2 x hx).dp)
theorem AsksAt.sh {H : Hp} {k : Addr} {as : List Ak} {nb : Nat} (h : AsksAt H k as nb) (hn : nb ≤ 16) : Sh (akD as) 3 800000 :=
  Sh.tup (n := 2) (c := 19000) (j := 40) (fun x hx => (h.2.2 x hx).sh hn) (Nat.le_refl _) h.2.1 (by decide)
/-! ### asks played -/
def stepP (s : List Int × List Int) (x : Ak) : List Int × List Int := (s.1 ++ [s.2.getD x.box 0], s.2.set x.box (x.d.ap (s.2.getD x.box 0)))
def play (as : List Ak) (bs : List Int) : List Int × List Int := as.foldl stepP ([], bs)
theorem play_snoc {as : List Ak} {bs : List Int} {i : Nat} {x : Ak} (h : as[i]? = some x) : play (as.take (i + 1)) bs = stepP (play (as.take i) bs) x := by
  unfold play; rw [take_snoc h, List.foldl_append] <;> rfl
theorem Wi.set {c : Int} {bs : List Int} {i : Nat} {v : Int} (h : Wi c bs) (h1 : -c ≤ v) (h2 : v ≤ c) : Wi c (bs.set i v) := fun x hx => by
  rcases List.mem_or_eq_of_mem_set hx with h3 | h3
  · exact h x h3
  · subst h3; exact ⟨h1, h2⟩
theorem Wi.mono {c c' : Int} {bs : List Int} (h : Wi c bs) (e : c ≤ c') : Wi c' bs := fun x hx => by have := h x hx; omega
theorem Wi.get {c : Int} {bs : List Int} {i : Nat} (h : Wi c bs) (h0 : 0 ≤ c) : -c ≤ bs.getD i 0 ∧ bs.getD i 0 ≤ c := by
  rw [List.getD_eq_getElem?_getD]
  cases e : bs[i]? with
  | none => show -c ≤ 0 ∧ 0 ≤ c; omega
  | some x => exact h x (List.mem_of_getElem? e)
theorem snoc_ind {α : Type} {p : List α → Prop} (nil : p []) (snoc : ∀ l x, p l → p (l ++ [x])) (l : List α) : p l := by
  have h : ∀ l : List α, p l.reverse := fun l => by
    induction l with
    | nil => exact nil
    | cons x r ih => rw [List.reverse_cons]; exact snoc _ _ ih
  have := h l.reverse
  rwa [List.reverse_reverse] at this
theorem play_in {H : Hp} {nb : Nat} {bs : List Int} {c : Int} (hc : 0 ≤ c) (hb : Wi c bs) : ∀ {as : List Ak}, (∀ x ∈ as, x.at_ H nb) → (play as bs).1.length = as.length ∧ (play as bs).2.length = bs.length ∧ Wi (c + as.length * 10 ^ 80) (play as bs).1 ∧ Wi (c + as.length * 10 ^ 80) (play as bs).2 := by
  intro as
  induction as using snoc_ind with
  | nil => exact fun _ => ⟨rfl, rfl, (fun x hx => (nomatch hx)), hb.mono (by show c ≤ c + ((0 : Nat) : Int) * _; omega)⟩
  | snoc as x ih =>
    intro h
    obtain ⟨i1, i2, i3, i4⟩ := ih fun y hy => h y (List.mem_append_left _ hy)
    have hx := h x (List.mem_append_right _ List.mem_cons_self)
    have e : play (as ++ [x]) bs = stepP (play as bs) x := by unfold play; rw [List.foldl_append] <;> rfl
    have hg := i4.get (i := x.box) (by omega)
    have ha := ap_in (v := (play as bs).2.getD x.box 0) hx.2.1.2.1 hg.1 hg.2 (by omega)
    rw [e]
    have el : (((as ++ [x]).length : Nat) : Int) = as.length + 1 := by simp
    rw [el]
    refine ⟨?_, ?_, ?_, ?_⟩
    · show (_ ++ [_]).length = _; simp [i1]
    · show (List.set _ _ _).length = _; simp [i2]
    · intro y hy
      rcases List.mem_append.mp (show y ∈ _ ++ [_] from hy) with h3 | h3
      · have := i3 y h3; omega
      · have := List.mem_singleton.mp h3; subst this; omega
    · exact Wi.set (i4.mono (by omega)) (by omega) (by omega)
theorem menu8 : ∀ j : Nat, j < 8 → ∃ z : Int, ([.int 2147483629, .int 2147483587, .int 2147483579, .int 2147483563, .int 2147483549, .int 2147483543, .int 2147483497, .int 2147483489] : List V)[j]? = some (.int z) ∧ 0 < z ∧ z ≤ 2147483629
  | 0, _ => ⟨_, rfl, by decide, by decide⟩
  | 1, _ => ⟨_, rfl, by decide, by decide⟩
  | 2, _ => ⟨_, rfl, by decide, by decide⟩
  | 3, _ => ⟨_, rfl, by decide, by decide⟩
  | 4, _ => ⟨_, rfl, by decide, by decide⟩
  | 5, _ => ⟨_, rfl, by decide, by decide⟩
  | 6, _ => ⟨_, rfl, by decide, by decide⟩
  | 7, _ => ⟨_, rfl, by decide, by decide⟩
  | n + 8, h => absurd h (by omega)
theorem at3 {x0 x1 x2 : Int} : ∀ j : Nat, j < 3 → ∃ z : Int, ([.int x0, .int x1, .int x2] : List V)[j]? = some (.int z) ∧ (z = x0 ∨ z = x1 ∨ z = x2)
  | 0, _ => ⟨_, rfl, .inl rfl⟩
  | 1, _ => ⟨_, rfl, .inr (.inl rfl)⟩
  | 2, _ => ⟨_, rfl, .inr (.inr rfl)⟩
  | n + 3, h => absurd h (by omega)
theorem but_upd {p D : Addr} {H H1 : Hp} {o : HO} (n : H D = none) (a : But p H H1) : But p H (upd H1 D o) := fun b u hb e => by rw [upd_ne (ne_of_none e n)]; exact a b u hb e
theorem PotAt.upd {H : Hp} {p D : Addr} {o : HO} (n : p ≠ D) (h : PotAt H p) : PotAt (L2.upd H D o) p := by
  obtain ⟨a, b, h1, h2⟩ := h
  exact ⟨a, b, by rw [upd_ne n]; exact h1, h2⟩
theorem Wi.snoc {c : Int} {bs : List Int} {x : Int} (h : Wi c bs) (h1 : -c ≤ x) (h2 : x ≤ c) : Wi c (bs ++ [x]) := fun y hy => by
  rcases List.mem_append.mp hy with h3 | h3
  · exact h y h3
  · have := List.mem_singleton.mp h3; subst this; exact ⟨h1, h2⟩
theorem play_len {as : List Ak} {bs : List Int} : (play as bs).1.length = as.length ∧ (play as bs).2.length = bs.length := by
  induction as using snoc_ind with
  | nil => exact ⟨rfl, rfl⟩
  | snoc as x ih =>
    have e : play (as ++ [x]) bs = stepP (play as bs) x := by unfold play; rw [List.foldl_append] <;> rfl
    rw [e]
    refine ⟨?_, ?_⟩
    · show (_ ++ [_]).length = _; simp [ih.1]
    · show (List.set _ _ _).length = _; simp [ih.2]
theorem map_getD {us : List Int} {i : Nat} (h : i < us.length) : (us.map V.int)[i]? = some (.int (us.getD i 0)) := by
  rw [List.getElem?_map, List.getD_eq_getElem?_getD, List.getElem?_eq_getElem h] <;> rfl
/-- what is told of asks played -/
def TwoAt (H : Hp) (r : Addr) (s : List Int × List Int) : Prop := ∃ t1 t2, H r = some (.tup [.ref t1, .ref t2]) ∧ H t1 = some (.tup (s.1.map V.int)) ∧ H t2 = some (.tup (s.2.map V.int))
theorem TwoAt.same {H H' : Hp} {r : Addr} {s : List Int × List Int} (e : Same H H') (h : TwoAt H r s) : TwoAt H' r s := by
  obtain ⟨a, b, h1, h2, h3⟩ := h
  exact ⟨a, b, e _ _ h1, e _ _ h2, e _ _ h3⟩
def twoD (s : List Int × List Int) : PyData := .tuple [intsD s.1, intsD s.2]
theorem TwoAt.dp {K : PySem.W.Frag} {H : Hp} {r : Addr} {s : List Int × List Int} (h : TwoAt H r s) : Dp K H (.ref r) (twoD s) := by
  obtain ⟨a, b, h1, h2, h3⟩ := h
  exact .tup (SqT.of h1) (.cons (tupI_dp (SqT.of h2)) (.cons (tupI_dp (SqT.of h3)) .nil))
theorem play_sh {H : Hp} {k : Addr} {as : List Ak} {bs : List Int} {c : Int} (hk : AsksAt H k as bs.length) (hn : bs.length ≤ 16) (hw : Wi c bs) (h0 : 0 ≤ c) (hc : c ≤ 10 ^ 91) : Sh (twoD (play as bs)) 2 160000 := by
  obtain ⟨h1, h2, h3, h4⟩ := play_in h0 hw hk.2.2
  have h40 := hk.2.1
  have hb : c + (as.length : Int) * 10 ^ 80 ≤ 10 ^ 100 := by omega
  refine Sh.tup (f := id) (n := 1) (c := 77004) (j := 2) (xs := [intsD (play as bs).1, intsD (play as bs).2]) ?_ (Nat.le_refl _) (Nat.le_refl _) (by decide)
  intro x hx
  simp only [List.mem_cons, List.mem_nil_iff, or_false] at hx
  rcases hx with rfl | rfl
  · exact ints_sh1 (n := 40) h3 hb (by omega)
  · exact ints_sh1 (n := 40) h4 hb (by omega)
/-! ### trees -/
inductive Tr where
  | leaf (n : Nat)
  | node (l r : Tr)
def Tr.cnt : Tr → Nat
  | .leaf _ => 1
  | .node l r => l.cnt + r.cnt
def Tr.h : Tr → Nat
  | .leaf _ => 1
  | .node l r => max l.h r.h + 1
def Tr.d : Tr → PyData
  | .leaf n => .int n
  | .node l r => .tuple [l.d, r.d]
def Tr.big : Tr → Nat
  | .leaf n => n
  | .node l r => max l.big r.big
def TrAt (H : Hp) : V → Tr → Prop
  | v, .leaf n => v = .int n
  | v, .node l r => ∃ a x y, v = .ref a ∧ H a = some (.tup [x, y]) ∧ TrAt H x l ∧ TrAt H y r
theorem TrAt.same {H H' : Hp} (e : Same H H') : ∀ {t : Tr} {v : V}, TrAt H v t → TrAt H' v t
  | .leaf _, _, h => h
  | .node l r, _, ⟨a, x, y, h1, h2, h3, h4⟩ => ⟨a, x, y, h1, e _ _ h2, TrAt.same e h3, TrAt.same e h4⟩
theorem TrAt.dp {K : PySem.W.Frag} {H : Hp} : ∀ {t : Tr} {v : V}, TrAt H v t → Dp K H v t.d
  | .leaf n, _, h => by
    cases (show _ = V.int n from h)
    exact .int n
  | .node l r, _, ⟨a, x, y, h1, h2, h3, h4⟩ => by
    cases h1
    exact .tup (SqT.of h2) (.cons h3.dp (.cons h4.dp .nil))
theorem Tr.sh : ∀ {t : Tr} {b : Nat}, t.big ≤ b → b ≤ 10 ^ 9 → t.d.showable = true ∧ t.d.depth + 1 ≤ t.h ∧ cst t.d + 12 ≤ 1940 * t.cnt
  | .leaf n, b, h, hb => by
    have h' : n ≤ b := h
    have i := int_sh (i := n) (by omega) (by omega)
    exact ⟨i.s, Nat.le_refl _, by show 1921 + 12 ≤ 1940 * 1; decide⟩
  | .node l r, b, h, hb => by
    have h' : max l.big r.big ≤ b := h
    obtain ⟨a1, a2, a3⟩ := Tr.sh (t := l) (b := b) (by omega) hb
    obtain ⟨b1, b2, b3⟩ := Tr.sh (t := r) (b := b) (by omega) hb
    refine ⟨?_, ?_, ?_⟩
    · simp only [Tr.d, PyData.showable, PyData.showableAll, a1, b1, Bool.and_self]
    · simp only [Tr.d, PyData.depth, PyData.depthAll, Tr.h]; omega
    · show (cst l.d + 4 + (cst r.d + 4 + 0)) + 4 + 12 ≤ 1940 * (l.cnt + r.cnt); omega
theorem Tr.shw {t : Tr} (h1 : t.big ≤ 10 ^ 9) (h2 : t.h ≤ 50) (h3 : t.cnt ≤ 50) : Sh t.d 60 100000 := by
  obtain ⟨a, b, c⟩ := Tr.sh h1 (Nat.le_refl _)
  exact ⟨a, by omega, by omega⟩
theorem Tr.h_pos : ∀ t : Tr, 1 ≤ t.h
  | .leaf _ => Nat.le_refl _
  | .node _ _ => Nat.le_add_left _ _
/-- the halved tree -/
def hv (f m : Nat) : Tr := if m ≤ 1 then .leaf f else .node (hv f ((m + 1) / 2)) (hv (f + (m + 1) / 2) (m - (m + 1) / 2))
termination_by m
decreasing_by all_goals omega
theorem hv_one {f m : Nat} (h : m ≤ 1) : hv f m = .leaf f := by rw [hv, if_pos h]
theorem hv_more {f m : Nat} (h : ¬ m ≤ 1) : hv f m = .node (hv f ((m + 1) / 2)) (hv (f + (m + 1) / 2) (m - (m + 1) / 2)) := by rw [hv, if_neg h]
def IsH : Tr → Nat → Prop
  | .leaf n, f => n = f
  | .node l r, f => (l.cnt = r.cnt ∨ l.cnt = r.cnt + 1) ∧ IsH l f ∧ IsH r (f + l.cnt)
theorem hv_is : ∀ (m f : Nat), 1 ≤ m → IsH (hv f m) f ∧ (hv f m).cnt = m ∧ (hv f m).h ≤ m ∧ (hv f m).big ≤ f + m := by
  intro m
  induction m using Nat.strongRecOn with
  | _ m ih =>
    intro f h
    by_cases c : m ≤ 1
    · rw [hv_one c]
      have : m = 1 := by omega
      subst this
      exact ⟨rfl, rfl, Nat.le_refl _, Nat.le_add_right _ _⟩
    · rw [hv_more c]
      obtain ⟨a1, a2, a3, a4⟩ := ih ((m + 1) / 2) (by omega) f (by omega)
      obtain ⟨b1, b2, b3, b4⟩ := ih (m - (m + 1) / 2) (by omega) (f + (m + 1) / 2) (by omega)
      refine ⟨⟨by omega, a1, by rw [a2]; exact b1⟩, ?_, ?_, ?_⟩
      · show _ + _ = _; omega
      · show max _ _ + 1 ≤ _; omega
      · show max _ _ ≤ _; omega
/-- the chained tree of so many -/
def ch : Nat → Tr
  | 0 => .leaf 0
  | n + 1 => .node (ch n) (.leaf (n + 1))
theorem ch_is : ∀ n, (ch n).cnt = n + 1 ∧ (ch n).h ≤ n + 1 ∧ (ch n).big ≤ n
  | 0 => ⟨rfl, Nat.le_refl _, Nat.le_refl _⟩
  | n + 1 => by
    obtain ⟨a, b, c⟩ := ch_is n
    refine ⟨?_, ?_, ?_⟩
    · show _ + 1 = _; omega
    · show max _ 1 + 1 ≤ _; omega
    · show max _ (n + 1) ≤ _; omega
theorem TrAt.but {p : Addr} {ys : List V} {H H' : Hp} (e : But p H H') (hp : H p = some (.lst ys)) : ∀ {t : Tr} {v : V}, TrAt H v t → TrAt H' v t
  | .leaf _, _, h => h
  | .node l r, _, ⟨a, x, y, h1, h2, h3, h4⟩ => ⟨a, x, y, h1, e _ _ (ne_of h2 hp (by intro z; cases z)) h2, TrAt.but e hp h3, TrAt.but e hp h4⟩
/-! ### rows of deeds, folded and shared out -/
def behs (ds : List Dd) : Dd := ds.foldl beh look
def Oks (ds : List Dd) : Prop := ∀ d ∈ ds, d.Ok
theorem behs_snoc (ds : List Dd) (d : Dd) : behs (ds ++ [d]) = beh (behs ds) d := by unfold behs; rw [List.foldl_append] <;> rfl
theorem behs_ok : ∀ {ds : List Dd}, Oks ds → (behs ds).Ok := by
  intro ds
  induction ds using snoc_ind with
  | nil => exact fun _ => look_ok
  | snoc ds d ih => exact fun h => by rw [behs_snoc]; exact beh_ok (ih fun x hx => h x (List.mem_append_left _ hx)) (h d (List.mem_append_right _ List.mem_cons_self))
theorem behs_app {xs : List Dd} (hx : Oks xs) : ∀ {ys : List Dd}, Oks ys → behs (xs ++ ys) = beh (behs xs) (behs ys) := by
  intro ys
  induction ys using snoc_ind with
  | nil => exact fun _ => by rw [List.append_nil]; exact (beh_look (behs_ok hx)).symm
  | snoc ys y ih =>
    intro h
    have h1 : Oks ys := fun x hx => h x (List.mem_append_left _ hx)
    have h2 : y.Ok := h y (List.mem_append_right _ List.mem_cons_self)
    rw [← List.append_assoc, behs_snoc, ih h1, behs_snoc, beh_assoc (behs_ok hx) (behs_ok h1) h2]
theorem behs_one {d : Dd} (h : d.Ok) : behs [d] = d := look_beh h
def ans : Int → List Dd → List Int
  | _, [] => []
  | v, d :: r => v :: ans (d.ap v) r
def aps : Int → List Dd → Int
  | v, [] => v
  | v, d :: r => aps (d.ap v) r
theorem aps_snoc : ∀ (ds : List Dd) (v : Int) (d : Dd), aps v (ds ++ [d]) = d.ap (aps v ds)
  | [], _, _ => rfl
  | _ :: r, _, _ => aps_snoc r _ _
theorem ans_app : ∀ (xs ys : List Dd) (v : Int), ans v (xs ++ ys) = ans v xs ++ ans (aps v xs) ys
  | [], _, _ => rfl
  | x :: r, ys, v => congrArg (v :: ·) (ans_app r ys _)
theorem ans_len : ∀ (xs : List Dd) (v : Int), (ans v xs).length = xs.length
  | [], _ => rfl
  | _ :: r, _ => congrArg (· + 1) (ans_len r _)
theorem behs_ap : ∀ {ds : List Dd}, Oks ds → ∀ v, (behs ds).ap v = aps v ds := by
  intro ds
  induction ds using snoc_ind with
  | nil => exact fun _ v => look_ap v
  | snoc ds d ih =>
    intro h v
    have h1 : Oks ds := fun x hx => h x (List.mem_append_left _ hx)
    have h2 : d.Ok := h d (List.mem_append_right _ List.mem_cons_self)
    rw [behs_snoc, beh_ap (behs_ok h1) h2, ih h1, aps_snoc]
/-- a tree's leaves are the numbers from one on -/
def IsRow : Tr → Nat → Prop
  | .leaf n, f => n = f
  | .node l r, f => IsRow l f ∧ IsRow r (f + l.cnt)
theorem Tr.cnt_pos : ∀ t : Tr, 1 ≤ t.cnt
  | .leaf _ => Nat.le_refl _
  | .node l r => Nat.le_trans l.cnt_pos (Nat.le_add_right _ _)
theorem Tr.h_cnt : ∀ t : Tr, t.h ≤ t.cnt
  | .leaf _ => Nat.le_refl _
  | .node l r => by
    have := l.h_cnt; have := r.h_cnt; have := l.cnt_pos; have := r.cnt_pos
    show max l.h r.h + 1 ≤ l.cnt + r.cnt
    omega
theorem IsRow.big : ∀ {t : Tr} {f : Nat}, IsRow t f → t.big ≤ f + t.cnt
  | .leaf n, f, h => by cases (show n = f from h); exact Nat.le_add_right _ _
  | .node l r, f, ⟨h1, h2⟩ => by
    have := h1.big; have := h2.big
    show max l.big r.big ≤ f + (l.cnt + r.cnt)
    omega
theorem isH_row : ∀ {t : Tr} {f : Nat}, IsH t f → IsRow t f
  | .leaf _, _, h => h
  | .node _ _, _, ⟨_, h1, h2⟩ => ⟨isH_row h1, isH_row h2⟩
theorem ch_row : ∀ n, IsRow (ch n) 0
  | 0 => rfl
  | n + 1 => ⟨ch_row n, by show n + 1 = 0 + (ch n).cnt; rw [(ch_is n).1]; omega⟩
def FT (ds : List Dd) : Tr → Dd
  | .leaf n => ds.getD n look
  | .node l r => beh (FT ds l) (FT ds r)
def ST (ds : List Dd) : Tr → Int → List Int
  | .leaf _, v => [v]
  | .node l r, v => ST ds l v ++ ST ds r ((FT ds l).ap v)
theorem cut_add {ds : List Dd} {f a b : Nat} : (ds.drop f).take (a + b) = (ds.drop f).take a ++ (ds.drop (f + a)).take b := by
  rw [List.take_add, List.drop_drop]
theorem oks_cut {ds : List Dd} (h : Oks ds) (f n : Nat) : Oks ((ds.drop f).take n) := fun d hd => h d (List.mem_of_mem_drop (List.mem_of_mem_take hd))
theorem cut_one {ds : List Dd} {n : Nat} (h : n < ds.length) : (ds.drop n).take 1 = [ds.getD n look] := by
  rw [List.getD_eq_getElem?_getD, List.getElem?_eq_getElem h, List.drop_eq_getElem_cons h] <;> rfl
theorem FT_is {ds : List Dd} (ok : Oks ds) : ∀ {t : Tr} {f : Nat}, IsRow t f → f + t.cnt ≤ ds.length → FT ds t = behs ((ds.drop f).take t.cnt)
  | .leaf n, f, h, hl => by
    cases (show n = f from h)
    have hl' : n < ds.length := hl
    show ds.getD n look = behs ((ds.drop n).take 1)
    rw [cut_one hl', behs_one]
    refine ok _ ?_
    rw [List.getD_eq_getElem?_getD, List.getElem?_eq_getElem hl']
    exact List.getElem_mem hl'
  | .node l r, f, ⟨h1, h2⟩, hl => by
    have hl' : f + (l.cnt + r.cnt) ≤ ds.length := hl
    show beh (FT ds l) (FT ds r) = behs ((ds.drop f).take (l.cnt + r.cnt))
    rw [FT_is ok h1 (by omega), FT_is ok h2 (by omega), cut_add, behs_app (oks_cut ok _ _) (oks_cut ok _ _)]
theorem ST_is {ds : List Dd} (ok : Oks ds) : ∀ {t : Tr} {f : Nat} {v : Int}, IsRow t f → f + t.cnt ≤ ds.length → ST ds t v = ans v ((ds.drop f).take t.cnt)
  | .leaf n, f, v, h, hl => by
    cases (show n = f from h)
    have hl' : n < ds.length := hl
    show [v] = ans v ((ds.drop n).take 1)
    rw [cut_one hl'] <;> rfl
  | .node l r, f, v, ⟨h1, h2⟩, hl => by
    have hl' : f + (l.cnt + r.cnt) ≤ ds.length := hl
    show ST ds l v ++ ST ds r ((FT ds l).ap v) = ans v ((ds.drop f).take (l.cnt + r.cnt))
    rw [ST_is ok h1 (by omega), ST_is ok h2 (by omega), cut_add, ans_app, FT_is ok h1 (by omega), behs_ap (oks_cut ok _ _)]
theorem FT_all {ds : List Dd} (ok : Oks ds) {t : Tr} (h : IsRow t 0) (hl : t.cnt = ds.length) : FT ds t = behs ds := by
  rw [FT_is ok h (by omega), List.drop_zero, hl, List.take_length]
theorem ST_all {ds : List Dd} (ok : Oks ds) {t : Tr} {v : Int} (h : IsRow t 0) (hl : t.cnt = ds.length) : ST ds t v = ans v ds := by
  rw [ST_is ok h (by omega), List.drop_zero, hl, List.take_length]
/-- a tuple of deeds -/
def DsAt (H : Hp) (k : Addr) (ps : List (Addr × Dd)) : Prop := H k = some (.tup (ps.map fun x => .ref x.1)) ∧ 1 ≤ ps.length ∧ ps.length ≤ 40 ∧ ∀ x ∈ ps, Da H x.1 x.2
theorem DsAt.same {H H' : Hp} {k : Addr} {ps : List (Addr × Dd)} (e : Same H H') (h : DsAt H k ps) : DsAt H' k ps := ⟨e _ _ h.1, h.2.1, h.2.2.1, fun x hx => (h.2.2.2 x hx).same e⟩
def dsOf (ps : List (Addr × Dd)) : List Dd := ps.map Prod.snd
theorem DsAt.oks {H : Hp} {k : Addr} {ps : List (Addr × Dd)} (h : DsAt H k ps) : Oks (dsOf ps) := fun d hd => by
  obtain ⟨x, hx, rfl⟩ := List.mem_map.mp hd
  exact (h.2.2.2 x hx).2.2
/-- rows of trees, one after another -/
def Rows : List Tr → Nat → Nat → Prop
  | [], f, m => f = m
  | t :: r, f, m => IsRow t f ∧ Rows r (f + t.cnt) m
def Tr.sz : Tr → Nat
  | .leaf _ => 1
  | .node l r => l.sz + r.sz + 1
def szs : List Tr → Nat
  | [] => 0
  | t :: r => t.sz + szs r
theorem Tr.lay : ∀ t : Tr, t.d.canLay0 = true
  | .leaf _ => rfl
  | .node l r => by
    have := l.lay; have := r.lay
    simp_all [Tr.d, PyData.canLay0, PyData.canLayAll0]
theorem rows_len : ∀ {ts : List Tr} {f m : Nat}, Rows ts f m → ts.length + f ≤ m
  | [], _, _, h => by cases (show _ = _ from h); exact Nat.le_of_eq (Nat.zero_add _)
  | t :: r, f, m, ⟨_, h⟩ => by
    have := rows_len h
    have := t.cnt_pos
    show r.length + 1 + f ≤ m
    omega
theorem eqv_nil : ∀ ds : List PyData, PyData.eqv (.list ds) (.list []) = ds.isEmpty
  | [] => rfl
  | _ :: _ => rfl
theorem lays {ts : List (V × Tr)} : PyData.canLayAll0 (ts.map fun x => x.2.d) = true := by
  induction ts with
  | nil => rfl
  | cons x r ih => simp [PyData.canLayAll0, x.2.lay, ih]
theorem depths : ∀ {xs : List (V × Tr)}, (∀ x ∈ xs, x.2.h ≤ 40 ∧ x.2.big ≤ 100) → PyData.depthAll (xs.map fun x => x.2.d) ≤ 50
  | [], _ => Nat.zero_le _
  | x :: r, hx => by
    have h1 := depths (xs := r) fun y hy => hx y (List.mem_cons_of_mem _ hy)
    have h2 := hx x List.mem_cons_self
    have h3 := (Tr.sh (Nat.le_trans h2.2 (by decide)) (Nat.le_refl (10 ^ 9))).2.1
    simp only [List.map_cons, PyData.depthAll]
    omega
theorem ST_len (ds : List Dd) : ∀ (t : Tr) (v : Int), (ST ds t v).length = t.cnt
  | .leaf _, _ => rfl
  | .node l r, v => by
    show (ST ds l v ++ ST ds r _).length = l.cnt + r.cnt
    rw [List.length_append, ST_len ds l, ST_len ds r]
def TsAt (H : Hp) (T : Addr) (ts : List (V × Tr)) (m : Nat) : Prop := H T = some (.lst (ts.map fun x => x.1)) ∧ ts.length ≤ 6 ∧ ∀ x ∈ ts, TrAt H x.1 x.2 ∧ IsRow x.2 0 ∧ x.2.cnt = m
theorem TsAt.same {H H' : Hp} {T : Addr} {ts : List (V × Tr)} {m : Nat} (e : Same H H') (h : TsAt H T ts m) : TsAt H' T ts m := ⟨e _ _ h.1, h.2.1, fun x hx => ⟨(h.2.2 x hx).1.same e, (h.2.2 x hx).2⟩⟩
theorem TsAt.but {p : Addr} {H H' : Hp} {T : Addr} {ts : List (V × Tr)} {m : Nat} (e : But p H H') (n : T ≠ p) {ys : List V} (hp : H p = some (.lst ys)) (h : TsAt H T ts m) : TsAt H' T ts m := ⟨e _ _ n h.1, h.2.1, fun x hx => ⟨(h.2.2 x hx).1.but e hp, (h.2.2 x hx).2⟩⟩
def tsD (ts : List (V × Tr)) : PyData := .list (ts.map fun x => x.2.d)
theorem TsAt.dp {K : PySem.W.Frag} {H : Hp} {T : Addr} {ts : List (V × Tr)} {m : Nat} (h : TsAt H T ts m) : Dp K H (.ref T) (tsD ts) := .lst (SqL.of h.1) (dps fun x hx => (h.2.2 x hx).1.dp)
theorem row_sh {t : Tr} {m : Nat} (h : IsRow t 0) (hc : t.cnt = m) (hm : m ≤ 40) : Sh t.d 40 80000 := by
  have h1 := h.big
  have h2 := t.h_cnt
  obtain ⟨a, b, c⟩ := Tr.sh (t := t) (b := 100) (by omega) (by decide)
  exact ⟨a, by omega, by omega⟩
theorem TsAt.sh {H : Hp} {T : Addr} {ts : List (V × Tr)} {m : Nat} (h : TsAt H T ts m) (hm : m ≤ 40) : Sh (tsD ts) 41 500000 :=
  Sh.lst (n := 40) (c := 80000) (j := 6) (fun x hx => row_sh (h.2.2 x hx).2.1 (h.2.2 x hx).2.2 hm) (Nat.le_refl _) h.2.1 (by decide)
theorem behs_in {b : Int} (h0 : 0 ≤ b) : ∀ {ds : List Dd}, (∀ d ∈ ds, d.In b) → (behs ds).In (ds.length * b) := by
  intro ds
  induction ds using snoc_ind with
  | nil => exact fun _ => by show look.In _; exact look_in (by simp)
  | snoc ds d ih =>
    intro h
    rw [behs_snoc]
    have h1 := ih fun x hx => h x (List.mem_append_left _ hx)
    have h2 := h d (List.mem_append_right _ List.mem_cons_self)
    have h3 := beh_in h1 h2 (Int.mul_nonneg (by omega) h0) h0
    rw [show (((ds ++ [d]).length : Nat) : Int) = ds.length + 1 by simp, Int.add_mul]
    refine In.le h3 ?_
    omega
theorem ans_in {b : Int} (h0 : 0 ≤ b) : ∀ {ds : List Dd} {v c : Int}, (∀ d ∈ ds, d.In b) → -c ≤ v → v ≤ c → 0 ≤ c → Wi (c + ds.length * b) (ans v ds)
  | [], _, _, _, _, _, _ => fun x hx => nomatch hx
  | d :: r, v, c, h, h1, h2, hc => by
    have h3 := ap_in (h d List.mem_cons_self) h1 h2 hc
    have h4 := ans_in h0 (ds := r) (v := d.ap v) (c := b + c) (fun x hx => h x (List.mem_cons_of_mem _ hx)) (by omega) (by omega) (by omega)
    have e : c + (((d :: r).length : Nat) : Int) * b = b + c + (r.length : Int) * b := by
      rw [List.length_cons, Int.natCast_add, Int.add_mul]
      omega
    have h5 := Int.mul_nonneg (show (0 : Int) ≤ (((d :: r).length : Nat) : Int) by omega) h0
    intro x hx
    rcases List.mem_cons.mp (show x ∈ v :: ans (d.ap v) r from hx) with rfl | hx
    · omega
    · rw [e]; exact h4 x hx
theorem DsAt.but {p : Addr} {H H' : Hp} {k : Addr} {ps : List (Addr × Dd)} (e : But p H H') {ys : List V} (hp : H p = some (.lst ys)) (h : DsAt H k ps) : DsAt H' k ps := ⟨e _ _ (ne_of h.1 hp (by intro z; cases z)) h.1, h.2.1, h.2.2.1, fun x hx => (h.2.2.2 x hx).but e hp⟩
def dsD (ps : List (Addr × Dd)) : PyData := .tuple (ps.map fun x => Toy.pd x.2)
theorem DsAt.dp {K : PySem.W.Frag} {H : Hp} {k : Addr} {ps : List (Addr × Dd)} (h : DsAt H k ps) : Dp K H (.ref k) (dsD ps) := .tup (SqT.of h.1) (dps fun x hx => (h.2.2.2 x hx).dp)
theorem DsAt.sh {H : Hp} {k : Addr} {ps : List (Addr × Dd)} (h : DsAt H k ps) : Sh (dsD ps) 2 250000 :=
  Sh.tup (n := 1) (c := 6000) (j := 40) (fun x hx => pd_sh1 (h.2.2.2 x hx).2.1 (by decide)) (Nat.le_refl _) h.2.2.1 (by decide)
theorem DsAt.ins {H : Hp} {k : Addr} {ps : List (Addr × Dd)} (h : DsAt H k ps) : ∀ d ∈ dsOf ps, d.In (10 ^ 80) := fun d hd => by
  obtain ⟨x, hx, rfl⟩ := List.mem_map.mp hd
  exact (h.2.2.2 x hx).2.1
theorem cut_mapG {α : Type} {g : α → V} (us : List α) (lo hi : Option Int) : ∃ ws : List α, cutV (us.map g) lo hi = ws.map g ∧ (ws.length ≤ us.length ∧ ∀ x ∈ ws, x ∈ us) := by
  refine ⟨(us.drop (HT.sIx (us.map g).length 0 lo)).take (HT.sIx (us.map g).length (us.map g).length hi - HT.sIx (us.map g).length 0 lo), ?_, ?_, fun x hx => List.mem_of_mem_drop (List.mem_of_mem_take hx)⟩
  · unfold cutV; rw [List.map_take, List.map_drop]
  · rw [List.length_take, List.length_drop]; omega
/-! ### what all asks make of each box -/
def stepM (s : List Dd × List Dd) (x : Ak) : List Dd × List Dd := (s.1 ++ [s.2.getD x.box look], s.2.set x.box (beh (s.2.getD x.box look) x.d))
def madeOf (as : List Ak) (n : Nat) : List Dd × List Dd := as.foldl stepM ([], List.replicate n look)
theorem made_app {as : List Ak} {n : Nat} {x : Ak} : madeOf (as ++ [x]) n = stepM (madeOf as n) x := by unfold madeOf; rw [List.foldl_append] <;> rfl
theorem made_snoc {as : List Ak} {n i : Nat} {x : Ak} (h : as[i]? = some x) : madeOf (as.take (i + 1)) n = stepM (madeOf (as.take i) n) x := by rw [take_snoc h, made_app]
theorem made_len {as : List Ak} {n : Nat} : (madeOf as n).1.length = as.length ∧ (madeOf as n).2.length = n := by
  induction as using snoc_ind with
  | nil => exact ⟨rfl, List.length_replicate⟩
  | snoc as x ih =>
    rw [made_app]
    refine ⟨?_, ?_⟩
    · show (_ ++ [_]).length = _; simp [ih.1]
    · show (List.set _ _ _).length = _; simp [ih.2]
def boxd (b : Nat) (as : List Ak) : List Dd := (as.filter fun x => decide (x.box = b)).map fun x => x.d
theorem boxd_snoc {b : Nat} {as : List Ak} {x : Ak} : boxd b (as ++ [x]) = if x.box = b then boxd b as ++ [x.d] else boxd b as := by
  unfold boxd
  rw [List.filter_append, List.map_append]
  by_cases c : x.box = b
  · rw [if_pos c, List.filter_cons_of_pos (by simp [c])] <;> rfl
  · rw [if_neg c, List.filter_cons_of_neg (by simp [c])]; simp
theorem getD_set {α : Type} {l : List α} {i j : Nat} {a d : α} (h : i < l.length) : (l.set i a).getD j d = if i = j then a else l.getD j d := by
  rw [List.getD_eq_getElem?_getD, List.getElem?_set, List.getD_eq_getElem?_getD]
  by_cases c : i = j
  · rw [if_pos c, if_pos c, if_pos h] <;> rfl
  · rw [if_neg c, if_neg c]
theorem made_get {n b : Nat} (hb : b < n) : ∀ {as : List Ak}, (∀ x ∈ as, x.box < n) → (madeOf as n).2.getD b look = behs (boxd b as) := by
  intro as
  induction as using snoc_ind with
  | nil =>
    intro _
    show (List.replicate n look).getD b look = look
    rw [List.getD_eq_getElem?_getD, List.getElem?_replicate]
    split <;> rfl
  | snoc as x ih =>
    intro h
    have hx := h x (List.mem_append_right _ List.mem_cons_self)
    have h1 := ih fun y hy => h y (List.mem_append_left _ hy)
    rw [made_app]
    show ((madeOf as n).2.set x.box (beh ((madeOf as n).2.getD x.box look) x.d)).getD b look = _
    rw [getD_set (by rw [made_len.2]; exact hx), boxd_snoc]
    by_cases c : x.box = b
    · subst c
      rw [if_pos rfl, if_pos rfl, behs_snoc, h1]
    · rw [if_neg c, if_neg c, h1]
theorem play_get {bs : List Int} {b : Nat} (hb : b < bs.length) : ∀ {as : List Ak}, (∀ x ∈ as, x.box < bs.length) → (play as bs).2.getD b 0 = aps (bs.getD b 0) (boxd b as) := by
  intro as
  induction as using snoc_ind with
  | nil => exact fun _ => rfl
  | snoc as x ih =>
    intro h
    have hx := h x (List.mem_append_right _ List.mem_cons_self)
    have h1 := ih fun y hy => h y (List.mem_append_left _ hy)
    have e : play (as ++ [x]) bs = stepP (play as bs) x := by unfold play; rw [List.foldl_append] <;> rfl
    rw [e]
    show ((play as bs).2.set x.box (x.d.ap ((play as bs).2.getD x.box 0))).getD b 0 = _
    rw [getD_set (by rw [play_len.2]; exact hx), boxd_snoc]
    by_cases c : x.box = b
    · subst c
      rw [if_pos rfl, if_pos rfl, aps_snoc, h1]
    · rw [if_neg c, if_neg c, h1]
theorem boxd_ok {b : Nat} {as : List Ak} (h : ∀ x ∈ as, x.d.Ok) : Oks (boxd b as) := fun d hd => by
  obtain ⟨x, hx, rfl⟩ := List.mem_map.mp hd
  exact h x (List.mem_filter.mp hx).1
theorem getD_app {α : Type} {l : List α} {a d : α} {k : Nat} : (l ++ [a]).getD k d = if k = l.length then a else l.getD k d := by
  rw [List.getD_eq_getElem?_getD, List.getD_eq_getElem?_getD]
  by_cases c : k = l.length
  · subst c; rw [if_pos rfl, List.getElem?_append_right (Nat.le_refl _), Nat.sub_self] <;> rfl
  · rw [if_neg c]
    by_cases c2 : k < l.length
    · rw [List.getElem?_append_left c2]
    · rw [List.getElem?_eq_none (by simp; omega), List.getElem?_eq_none (by omega)]
theorem ahead_get {bs : List Int} : ∀ {as : List Ak}, (∀ x ∈ as, x.box < bs.length ∧ x.d.Ok) → ∀ (k : Nat) (x : Ak), as[k]? = some x → ((madeOf as bs.length).1.getD k look).ap (bs.getD x.box 0) = (play as bs).1.getD k 0 := by
  intro as
  induction as using snoc_ind with
  | nil => exact fun _ k x h => by simp at h
  | snoc as y ih =>
    intro h k x hk
    have h0 : ∀ z ∈ as, z.box < bs.length ∧ z.d.Ok := fun z hz => h z (List.mem_append_left _ hz)
    have hy := h y (List.mem_append_right _ List.mem_cons_self)
    have e : play (as ++ [y]) bs = stepP (play as bs) y := by unfold play; rw [List.foldl_append] <;> rfl
    rw [e, made_app]
    show (((madeOf as bs.length).1 ++ [(madeOf as bs.length).2.getD y.box look]).getD k look).ap _ = ((play as bs).1 ++ [(play as bs).2.getD y.box 0]).getD k 0
    rw [getD_app, getD_app, made_len.1, play_len.1]
    by_cases c : k = as.length
    · rw [if_pos c, if_pos c]
      have : x = y := by
        rw [c, List.getElem?_append_right (Nat.le_refl _), Nat.sub_self] at hk
        exact (Option.some.inj hk).symm
      subst this
      rw [made_get hy.1 fun z hz => (h0 z hz).1, play_get hy.1 fun z hz => (h0 z hz).1, behs_ap (boxd_ok fun z hz => (h0 z hz).2)]
    · rw [if_neg c, if_neg c]
      have hlt : k < as.length := by
        have := (List.getElem?_eq_some_iff.mp hk).1
        simp at this; omega
      rw [List.getElem?_append_left hlt] at hk
      exact ih h0 k x hk
theorem made_in {n : Nat} : ∀ {as : List Ak}, (∀ x ∈ as, x.d.In (10 ^ 80)) → (∀ d ∈ (madeOf as n).1, d.In (as.length * 10 ^ 80)) ∧ (∀ d ∈ (madeOf as n).2, d.In (as.length * 10 ^ 80)) := by
  intro as
  induction as using snoc_ind with
  | nil => exact fun _ => ⟨(fun d hd => (nomatch hd)), fun d hd => by rw [(List.mem_replicate.mp hd).2]; exact look_in (by simp)⟩
  | snoc as x ih =>
    intro h
    obtain ⟨h1, h2⟩ := ih fun y hy => h y (List.mem_append_left _ hy)
    have hx := h x (List.mem_append_right _ List.mem_cons_self)
    rw [made_app]
    have el : (((as ++ [x]).length : Nat) : Int) = as.length + 1 := by simp
    have le : ((as.length : Nat) : Int) * 10 ^ 80 ≤ (((as ++ [x]).length : Nat) : Int) * 10 ^ 80 := by rw [el]; omega
    have hg : ((madeOf as n).2.getD x.box look).In (as.length * 10 ^ 80) := by
      rw [List.getD_eq_getElem?_getD]
      cases e : (madeOf as n).2[x.box]? with
      | none => exact look_in (by omega)
      | some d => exact h2 d (List.mem_of_getElem? e)
    refine ⟨fun d hd => ?_, fun d hd => ?_⟩
    · rcases List.mem_append.mp (show d ∈ _ ++ [_] from hd) with h3 | h3
      · exact In.le (h1 d h3) le
      · have := List.mem_singleton.mp h3; subst this; exact In.le hg le
    · rcases List.mem_or_eq_of_mem_set (show d ∈ List.set _ _ _ from hd) with h3 | h3
      · exact In.le (h2 d h3) le
      · subst h3
        have := beh_in hg hx (by omega) (by decide)
        refine In.le this ?_
        rw [el]; omega
/-- references to deeds -/
def RefsAt (K : PySem.W.Frag) (H : Hp) (ps : List (Addr × Dd)) : Prop := ∀ x ∈ ps, TupAt K H x.1 x.2.vs
theorem RefsAt.same {K : PySem.W.Frag} {H H' : Hp} {ps : List (Addr × Dd)} (e : Same H H') (h : RefsAt K H ps) : RefsAt K H' ps := fun x hx => (h x hx).same e
theorem RefsAt.but {K : PySem.W.Frag} {p : Addr} {ys : List V} {H H' : Hp} {ps : List (Addr × Dd)} (e : But p H H') (hp : H p = some (.lst ys)) (h : RefsAt K H ps) : RefsAt K H' ps := fun x hx => (h x hx).but e hp
theorem refs_get {ps : List (Addr × Dd)} {i : Nat} (h : i < ps.length) : ∃ y, ps[i]? = some y ∧ y ∈ ps ∧ y.2 = (dsOf ps).getD i look ∧ (ps.map fun x => V.ref x.1)[i]? = some (.ref y.1) := by
  refine ⟨ps[i], List.getElem?_eq_getElem h, List.getElem_mem h, ?_, ?_⟩
  · unfold dsOf; rw [List.getD_eq_getElem?_getD, List.getElem?_map, List.getElem?_eq_getElem h] <;> rfl
  · rw [List.getElem?_map, List.getElem?_eq_getElem h] <;> rfl
def refsD (ds : List Dd) : PyData := .tuple (ds.map Toy.pd)
theorem refs_dp {K : PySem.W.Frag} {H : Hp} {T : Addr} {ps : List (Addr × Dd)} (hT : SqT K H T (ps.map fun x => V.ref x.1)) (h : RefsAt K H ps) : Dp K H (.ref T) (refsD (dsOf ps)) := by
  have e : refsD (dsOf ps) = .tuple (ps.map fun x => Toy.pd x.2) := by unfold refsD dsOf; rw [List.map_map] <;> rfl
  rw [e]
  exact .tup hT (dps fun x hx => pd_dp (h x hx).sq)
theorem refs_sh {ds : List Dd} {b : Int} (h : ∀ d ∈ ds, d.In b) (hb : b ≤ 10 ^ 100) (hl : ds.length ≤ 40) : Sh (refsD ds) 2 250000 :=
  Sh.tup (n := 1) (c := 6000) (j := 40) (fun x hx => pd_sh1 (h x hx) hb) (Nat.le_refl _) hl (by decide)
theorem refs_new {n : Nat} {v : V} : (List.replicate n [v]).flatten = List.replicate n v := by
  induction n with
  | zero => rfl
  | succ n ih => rw [List.replicate_succ, List.flatten_cons, ih] <;> rfl
/-- a turn of the row of deeds -/
theorem refs_set {K : PySem.W.Frag} {H : Hp} {L c : Addr} {ps : List (Addr × Dd)} {i : Nat} {d : Dd} {ys : List V} {o : HO} (hL : H L = some (.lst ys)) (h : RefsAt K H ps) (hc : H c = some (.tup d.vs)) : RefsAt K (upd H L o) (ps.set i (c, d)) := fun x hx => by
  rcases List.mem_or_eq_of_mem_set hx with h3 | h3
  · exact (h x h3).but But.upd hL
  · subst h3
    exact .inl (by rw [upd_ne (ne_of hc hL (by intro z; cases z))]; exact hc)
theorem dsOf_len {ps : List (Addr × Dd)} {ds : List Dd} (e : dsOf ps = ds) : ps.length = ds.length := by rw [← e]; unfold dsOf; rw [List.length_map]
/-- the two rows: what was ahead, what is made -/
def MadeAt (K : PySem.W.Frag) (H : Hp) (L M : Addr) (st : List Dd × List Dd) : Prop := ∃ ps1 ps2 : List (Addr × Dd), H M = some (.lst (ps1.map fun x => V.ref x.1)) ∧ H L = some (.lst (ps2.map fun x => V.ref x.1)) ∧ dsOf ps1 = st.1 ∧ dsOf ps2 = st.2 ∧ RefsAt K H ps1 ∧ RefsAt K H ps2
theorem MadeAt.new {K : PySem.W.Frag} {H : Hp} {L M : Addr} {ps : List (Addr × Dd)} {st : List Dd} (hL : H L = some (.lst (ps.map fun x => V.ref x.1))) (hM : H M = some (.lst [])) (h : RefsAt K H ps) (e : dsOf ps = st := by unfold dsOf; rw [List.map_replicate] <;> rfl) : MadeAt K H L M ([], st) :=
  ⟨[], ps, hM, hL, rfl, e, (fun x hx => (nomatch hx)), h⟩
theorem MadeAt.turn {K : PySem.W.Frag} {H : Hp} {L M : Addr} {st : List Dd × List Dd} (h : MadeAt K H L M st) {x : Ak} (hb : x.box < st.2.length) :
    ∃ y : Addr × Dd, (∀ ys, H L = some (.lst ys) → ys[x.box]? = some (.ref y.1)) ∧ SqT K H y.1 y.2.vs ∧ y.2 = st.2.getD x.box look ∧
      ∀ (ps1 ps2 : List (Addr × Dd)) (H5 : Hp) (c : Addr), L ≠ M → dsOf ps1 = st.1 → dsOf ps2 = st.2 → RefsAt K H ps1 → RefsAt K H ps2 → H M = some (.lst (ps1.map fun x => V.ref x.1)) → Same (upd H M (.lst (ps1.map (fun x => V.ref x.1) ++ [V.ref y.1]))) H5 →
        H5 L = some (.lst (ps2.map fun x => V.ref x.1)) → H5 c = some (.tup (beh y.2 x.d).vs) → MadeAt K (upd H5 L (.lst ((ps2.map fun x => V.ref x.1).set x.box (.ref c)))) L M (stepM st x) := by
  obtain ⟨p1, p2, hM, hL, e1, e2, r1, r2⟩ := h
  obtain ⟨y, hy, hym, hyd, hyr⟩ := refs_get (ps := p2) (i := x.box) (by rw [dsOf_len e2]; exact hb)
  rw [e2] at hyd
  refine ⟨y, fun ys h => ?_, (r2 y hym).sq, hyd, fun ps1 ps2 H5 c nLM f1 f2 g1 g2 hM4 S5 hL5 hc => ?_⟩
  · rw [hL] at h
    cases h
    exact hyr
  · refine ⟨ps1 ++ [y], ps2.set x.box (c, beh y.2 x.d), ?_, ?_, ?_, ?_, ?_, ?_⟩
    · rw [upd_ne nLM.symm, S5 _ _ upd_same, List.map_append] <;> rfl
    · rw [upd_same, List.map_set] <;> rfl
    · show dsOf (ps1 ++ [y]) = st.1 ++ [st.2.getD x.box look]
      rw [← hyd, ← f1]
      unfold dsOf
      rw [List.map_append] <;> rfl
    · show dsOf (ps2.set x.box (c, beh y.2 x.d)) = st.2.set x.box (beh (st.2.getD x.box look) x.d)
      rw [← hyd, ← f2]
      unfold dsOf
      rw [List.map_set]
    · intro z hz
      have hz' : TupAt K H z.1 z.2.vs := by
        rcases List.mem_append.mp hz with h3 | h3
        · exact g1 z h3
        · have := List.mem_singleton.mp h3; subst this; exact r2 _ hym
      exact ((hz'.but But.upd hM).same S5).but But.upd hL5
    · exact refs_set hL5 (fun z hz => ((g2 z hz).but But.upd hM).same S5) hc
theorem refs_dp' {K : PySem.W.Frag} {H : Hp} {T : Addr} {ps : List (Addr × Dd)} {ds : List Dd} (e : dsOf ps = ds) (hT : SqT K H T (ps.map fun x => V.ref x.1)) (h : RefsAt K H ps) : Dp K H (.ref T) (refsD ds) := e ▸ refs_dp hT h
theorem AsksAt.but {p : Addr} {ys : List V} {H H' : Hp} {k : Addr} {as : List Ak} {nb : Nat} (e : But p H H') (hp : H p = some (.lst ys)) (h : AsksAt H k as nb) : AsksAt H' k as nb := ⟨e _ _ (ne_of h.1 hp (by intro z; cases z)) h.1, h.2.1, fun x hx => (h.2.2 x hx).but e hp⟩
/-! ### asks parted, boxes alone, neighbours exchanged, boxes renamed -/
theorem play_app1 {as : List Ak} {bs : List Int} {x : Ak} : play (as ++ [x]) bs = stepP (play as bs) x := by unfold play; rw [List.foldl_append] <;> rfl
theorem play_app {as : List Ak} {bs : List Int} : ∀ cs : List Ak, play (as ++ cs) bs = ((play as bs).1 ++ (play cs (play as bs).2).1, (play cs (play as bs).2).2) := by
  intro cs
  induction cs using snoc_ind with
  | nil => rw [List.append_nil]; show play as bs = ((play as bs).1 ++ [], (play as bs).2); rw [List.append_nil]
  | snoc cs x ih =>
    rw [← List.append_assoc, play_app1, play_app1, ih]
    show (((play as bs).1 ++ (play cs (play as bs).2).1) ++ [_], _) = (_ ++ (_ ++ [_]), _)
    rw [List.append_assoc] <;> rfl
/-- what those ahead make, parted -/
def parted (as cs : List Ak) (n : Nat) : List Dd := (List.range cs.length).map fun j => beh ((madeOf as n).2.getD ((cs.map Ak.box).getD j 0) look) ((madeOf cs n).1.getD j look)
theorem made_at1 {as : List Ak} {n k : Nat} {x : Ak} (h : k < as.length) : (madeOf (as ++ [x]) n).1.getD k look = (madeOf as n).1.getD k look := by
  rw [made_app]
  show ((madeOf as n).1 ++ [_]).getD k look = _
  rw [getD_app, made_len.1, if_neg (by omega)]
theorem made_last {as : List Ak} {n : Nat} {x : Ak} : (madeOf (as ++ [x]) n).1.getD as.length look = (madeOf as n).2.getD x.box look := by
  rw [made_app]
  show ((madeOf as n).1 ++ [_]).getD as.length look = _
  rw [getD_app, made_len.1, if_pos rfl]
theorem made_app1 {as : List Ak} {n : Nat} {x : Ak} : (madeOf (as ++ [x]) n).1 = (madeOf as n).1 ++ [(madeOf as n).2.getD x.box look] := by rw [made_app] <;> rfl
theorem made_part {as : List Ak} {n : Nat} (h : ∀ x ∈ as, x.box < n ∧ x.d.Ok) : ∀ cs : List Ak, (∀ x ∈ cs, x.box < n ∧ x.d.Ok) → (madeOf (as ++ cs) n).1 = (madeOf as n).1 ++ parted as cs n := by
  intro cs
  induction cs using snoc_ind with
  | nil => intro _; rw [List.append_nil]; show _ = _ ++ []; rw [List.append_nil]
  | snoc cs x ih =>
    intro hc
    have hx := hc x (List.mem_append_right _ List.mem_cons_self)
    have hc' : ∀ y ∈ cs, y.box < n ∧ y.d.Ok := fun y hy => hc y (List.mem_append_left _ hy)
    have hac : ∀ y ∈ as ++ cs, y.box < n ∧ y.d.Ok := fun y hy => (List.mem_append.mp hy).elim (h y) (hc' y)
    rw [← List.append_assoc, made_app1, ih hc', made_get hx.1 fun y hy => (hac y hy).1]
    have e0 : boxd x.box (as ++ cs) = boxd x.box as ++ boxd x.box cs := by unfold boxd; rw [List.filter_append, List.map_append]
    rw [e0, behs_app (boxd_ok fun y hy => (h y hy).2) (boxd_ok fun y hy => (hc' y hy).2), ← made_get hx.1 fun y hy => (h y hy).1, ← made_get hx.1 fun y hy => (hc' y hy).1, List.append_assoc]
    congr 1
    unfold parted
    rw [List.length_append, List.length_singleton, List.range_succ, List.map_append]
    congr 1
    · refine List.map_congr_left fun j hj => ?_
      have hj' := List.mem_range.mp hj
      rw [made_at1 hj', List.map_append, List.getD_eq_getElem?_getD (l := List.map Ak.box cs ++ _), List.getElem?_append_left (by rw [List.length_map]; exact hj'), ← List.getD_eq_getElem?_getD]
    · show [beh ((madeOf as n).2.getD x.box look) ((madeOf cs n).2.getD x.box look)] = [beh ((madeOf as n).2.getD ((List.map Ak.box (cs ++ [x])).getD cs.length 0) look) ((madeOf (cs ++ [x]) n).1.getD cs.length look)]
      rw [made_last, List.map_append, List.getD_eq_getElem?_getD (l := List.map Ak.box cs ++ _), List.getElem?_append_right (by rw [List.length_map]; exact Nat.le_refl _), List.length_map, Nat.sub_self] <;> rfl
/-- the numbers of the asks at a box -/
def ownI (b : Nat) (as : List Ak) (i : Nat) : List Nat := (List.range i).filter fun k => decide ((as.map Ak.box)[k]? = some b)
theorem ownI_succ {b : Nat} {as : List Ak} {i : Nat} {x : Ak} (h : as[i]? = some x) : ownI b as (i + 1) = if x.box = b then ownI b as i ++ [i] else ownI b as i := by
  unfold ownI
  rw [List.range_succ, List.filter_append]
  have e : (as.map Ak.box)[i]? = some x.box := by rw [List.getElem?_map, h] <;> rfl
  by_cases c : x.box = b
  · rw [if_pos c, List.filter_cons_of_pos (by rw [e, c]; exact decide_eq_true rfl)] <;> rfl
  · rw [if_neg c, List.filter_cons_of_neg (by rw [e]; intro z; exact c (Option.some.inj (of_decide_eq_true z)))]
    exact List.append_nil _
theorem ownI_lt {b : Nat} {as : List Ak} {i k : Nat} (h : k ∈ ownI b as i) : k < i ∧ ∃ x, as[k]? = some x ∧ x.box = b := by
  obtain ⟨h1, h2⟩ := List.mem_filter.mp h
  have h2 := of_decide_eq_true h2
  rw [List.getElem?_map] at h2
  obtain ⟨x, hx, hb⟩ := Option.map_eq_some_iff.mp h2
  exact ⟨List.mem_range.mp h1, x, hx, hb⟩
theorem ownI_len {b : Nat} {as : List Ak} {i : Nat} : (ownI b as i).length ≤ i := by
  have := List.length_filter_le (fun k => decide ((as.map Ak.box)[k]? = some b)) (List.range i)
  rw [List.length_range] at this
  exact this
def atBox (b : Nat) (as : List Ak) : List Ak := as.filter fun x => decide (x.box = b)
theorem atBox_snoc {b : Nat} {as : List Ak} {x : Ak} : atBox b (as ++ [x]) = if x.box = b then atBox b as ++ [x] else atBox b as := by
  unfold atBox
  rw [List.filter_append]
  by_cases c : x.box = b
  · rw [if_pos c, List.filter_cons_of_pos (by simp [c])] <;> rfl
  · rw [if_neg c, List.filter_cons_of_neg (by simp [c])]; simp
theorem boxd_at {b : Nat} {as : List Ak} : boxd b (atBox b as) = boxd b as := by
  unfold boxd atBox
  rw [List.filter_filter]
  congr 2
  funext x
  rw [Bool.and_self]
theorem own_asks {b : Nat} {as : List Ak} (dflt : Ak) : ∀ i, i ≤ as.length → (ownI b as i).map (fun k => as.getD k dflt) = atBox b (as.take i)
  | 0, _ => rfl
  | i + 1, hi => by
    have hx : as[i]? = some as[i] := List.getElem?_eq_getElem (by omega)
    rw [ownI_succ hx, take_snoc hx, atBox_snoc, ← own_asks dflt i (by omega)]
    split
    · rw [List.map_append]
      show _ ++ [as.getD i dflt] = _
      rw [List.getD_eq_getElem?_getD, hx] <;> rfl
    · rfl
theorem play_pre {as : List Ak} {bs : List Int} {i : Nat} {x : Ak} (h : as[i]? = some x) : (play as bs).1.getD i 0 = (play (as.take i) bs).2.getD x.box 0 := by
  have hi := (List.getElem?_eq_some_iff.mp h).1
  have e : as = (as.take i ++ [x]) ++ as.drop (i + 1) := by rw [← take_snoc h, List.take_append_drop]
  have l1 := (play_len (as := as.take i) (bs := bs)).1
  rw [List.length_take, Nat.min_eq_left (by omega)] at l1
  conv => lhs; rw [e, play_app]
  show ((play (as.take i ++ [x]) bs).1 ++ _).getD i 0 = _
  rw [List.getD_eq_getElem?_getD, List.getElem?_append_left (by rw [play_len.1, List.length_append, List.length_take, List.length_singleton]; omega), ← List.getD_eq_getElem?_getD, play_app1]
  show ((play (as.take i) bs).1 ++ [_]).getD i 0 = _
  rw [getD_app, l1, if_pos rfl]
theorem at_val {bs : List Int} {b : Nat} (hb : b < bs.length) {as : List Ak} (h : ∀ x ∈ as, x.box < bs.length) : (play (atBox b as) bs).2.getD b 0 = (play as bs).2.getD b 0 := by
  rw [play_get (as := atBox b as) hb fun x hx => h x (List.mem_filter.mp hx).1, play_get hb h, boxd_at]
theorem own_ans {b : Nat} {bs : List Int} (hb : b < bs.length) {as : List Ak} (h : ∀ x ∈ as, x.box < bs.length) : ∀ i, i ≤ as.length → (ownI b as i).map (fun k => (play as bs).1.getD k 0) = (play (atBox b (as.take i)) bs).1
  | 0, _ => rfl
  | i + 1, hi => by
    have hx : as[i]? = some as[i] := List.getElem?_eq_getElem (by omega)
    rw [ownI_succ hx, take_snoc hx, atBox_snoc]
    split
    · rename_i c
      rw [List.map_append, own_ans hb h i (by omega), play_app1]
      show (play (atBox b (as.take i)) bs).1 ++ [(play as bs).1.getD i 0] = _ ++ [(play (atBox b (as.take i)) bs).2.getD as[i].box 0]
      rw [play_pre hx, c, at_val hb fun x hx => h x (List.mem_of_mem_take hx)]
    · exact own_ans hb h i (by omega)
/-- neighbours at unlike boxes exchanged -/
theorem play_swap {xs ys : List Ak} {a c : Ak} {bs : List Int} (n : a.box ≠ c.box) (ha : a.box < bs.length) (hc : c.box < bs.length) {us ws : List Int} {u v : Int} {last : List Int}
    (h : play (xs ++ [a, c] ++ ys) bs = (us ++ [u, v] ++ ws, last)) (hl : us.length = xs.length) : play (xs ++ [c, a] ++ ys) bs = (us ++ [v, u] ++ ws, last) := by
  rw [List.append_assoc, play_app, show [a, c] ++ ys = ([a] ++ [c]) ++ ys from rfl, play_app, play_app] at h
  rw [List.append_assoc, play_app, show [c, a] ++ ys = ([c] ++ [a]) ++ ys from rfl, play_app, play_app]
  have l2 := (play_len (as := xs) (bs := bs)).2
  have l1 := (play_len (as := xs) (bs := bs)).1
  generalize play xs bs = p at h l1 l2 ⊢
  obtain ⟨p1, p2⟩ := p
  have l2 : p2.length = bs.length := l2
  have l1 : p1.length = xs.length := l1
  have one : ∀ (x : Ak) (q : List Int), play [x] q = ([q.getD x.box 0], q.set x.box (x.d.ap (q.getD x.box 0))) := fun _ _ => rfl
  simp only [one] at h ⊢
  have g1 : (p2.set a.box (a.d.ap (p2.getD a.box 0))).getD c.box 0 = p2.getD c.box 0 := by rw [getD_set (by omega), if_neg n]
  have g2 : (p2.set c.box (c.d.ap (p2.getD c.box 0))).getD a.box 0 = p2.getD a.box 0 := by rw [getD_set (by omega), if_neg (Ne.symm n)]
  rw [g1] at h
  rw [g2]
  have e := List.set_comm (l := p2) (a.d.ap (p2.getD a.box 0)) (c.d.ap (p2.getD c.box 0)) n
  rw [e] at h
  generalize play ys _ = r at h ⊢
  have h1 : p1 ++ (p2.getD a.box 0 :: p2.getD c.box 0 :: r.1) = us ++ (u :: v :: ws) := by
    have := congrArg Prod.fst h
    simpa using this
  have h2 : r.2 = last := congrArg Prod.snd h
  obtain ⟨h3, h5⟩ := List.append_inj h1 (by rw [l1, hl])
  injection h5 with h6 h7
  injection h7 with h7 h8
  rw [h3, h6, h7, h8, h2]
  simp
/-! renamed boxes -/
def ren {α : Type} (m : List Nat) (d : α) (bs : List α) : List α := (List.range bs.length).map fun b => bs.getD (m.idxOf b) d
theorem ren_len {α : Type} {m : List Nat} {d : α} {bs : List α} : (ren m d bs).length = bs.length := by unfold ren; rw [List.length_map, List.length_range]
theorem ren_get {α : Type} {m : List Nat} {d : α} {bs : List α} {b : Nat} (h : b < bs.length) : (ren m d bs).getD b d = bs.getD (m.idxOf b) d := by
  unfold ren
  rw [List.getD_eq_getElem?_getD, List.getElem?_map, List.getElem?_range h] <;> rfl
/-- m: each number below n, once -/
structure Mx (m : List Nat) (n : Nat) : Prop where
  pm : m.Perm (List.range n)
theorem Mx.len {m : List Nat} {n : Nat} (h : Mx m n) : m.length = n := by have := h.pm.length_eq; rw [List.length_range] at this; exact this
theorem Mx.nd {m : List Nat} {n : Nat} (h : Mx m n) : m.Nodup := h.pm.nodup_iff.mpr List.nodup_range
theorem Mx.mem {m : List Nat} {n b : Nat} (h : Mx m n) : b ∈ m ↔ b < n := by rw [h.pm.mem_iff, List.mem_range]
theorem Mx.lt {m : List Nat} {n j : Nat} (h : Mx m n) (hj : j < n) : m.getD j 0 < n := by
  have hj' : j < m.length := by rw [h.len]; exact hj
  rw [List.getD_eq_getElem?_getD, List.getElem?_eq_getElem hj']
  exact h.mem.mp (List.getElem_mem hj')
theorem Mx.ix {m : List Nat} {n j : Nat} (h : Mx m n) (hj : j < n) : m.idxOf (m.getD j 0) = j := by
  have hj' : j < m.length := by rw [h.len]; exact hj
  rw [List.getD_eq_getElem?_getD, List.getElem?_eq_getElem hj']
  show m.idxOf m[j] = j
  have hm := h.mem.mp (List.getElem_mem hj')
  have hi := List.idxOf_lt_length_iff.mpr (List.getElem_mem hj')
  have e : m[m.idxOf m[j]] = m[j] := List.getElem_idxOf hi
  have nd := List.pairwise_iff_getElem.mp h.nd
  rcases Nat.lt_trichotomy (m.idxOf m[j]) j with c | c | c
  · exact absurd e (nd _ _ hi hj' c)
  · exact c
  · exact absurd e.symm (nd _ _ hj' hi c)
theorem Mx.ixlt {m : List Nat} {n b : Nat} (h : Mx m n) (hb : b < n) : m.idxOf b < n := by
  have := List.idxOf_lt_length_iff.mpr (h.mem.mpr hb)
  rw [h.len] at this
  exact this
theorem Mx.at {m : List Nat} {n b : Nat} (h : Mx m n) (hb : b < n) : m[m.idxOf b]? = some b := by
  have h1 := List.idxOf_lt_length_iff.mpr (h.mem.mpr hb)
  rw [List.getElem?_eq_getElem h1, List.getElem_idxOf h1]
theorem ren_set {α : Type} {m : List Nat} {n j : Nat} {d v : α} {bs : List α} (h : Mx m n) (hb : bs.length = n) (hj : j < n) : ren m d (bs.set j v) = (ren m d bs).set (m.getD j 0) v := by
  refine List.ext_getElem? fun i => ?_
  by_cases hi : i < n
  · unfold ren
    rw [List.getElem?_map, List.length_set, hb, List.getElem?_range hi, List.getElem?_set, List.length_map, List.length_range, List.getElem?_map, List.getElem?_range hi]
    show some ((bs.set j v).getD (m.idxOf i) d) = _
    rw [getD_set (by rw [hb]; exact hj)]
    by_cases c : m.getD j 0 = i
    · subst c
      rw [if_pos rfl, if_pos (h.lt hj), h.ix hj, if_pos rfl]
    · rw [if_neg c, if_neg fun z => c ?_] <;> first | rfl | skip
      have := h.at hi
      rw [← z] at this
      rw [List.getD_eq_getElem?_getD, this] <;> rfl
  · rw [List.getElem?_eq_none (by rw [ren_len, List.length_set]; omega), List.getElem?_eq_none (by rw [List.length_set, ren_len]; omega)]
def renA (m : List Nat) (x y : Ak) : Prop := y.box = m.getD x.box 0 ∧ y.d = x.d
/-- two rows of asks, the second one at renamed boxes -/
inductive RenAs (m : List Nat) : List Ak → List Ak → Prop
  | nil : RenAs m [] []
  | snoc {as cs : List Ak} {x y : Ak} : RenAs m as cs → renA m x y → RenAs m (as ++ [x]) (cs ++ [y])
theorem RenAs.len {m : List Nat} {as cs : List Ak} (h : RenAs m as cs) : cs.length = as.length := by
  induction h with
  | nil => rfl
  | snoc _ _ ih => rw [List.length_append, List.length_append, ih] <;> rfl
theorem ren_play {m : List Nat} {bs : List Int} (hm : Mx m bs.length) {as cs : List Ak} (h : RenAs m as cs) (hb : ∀ x ∈ as, x.box < bs.length) : play cs (ren m 0 bs) = ((play as bs).1, ren m 0 (play as bs).2) := by
  induction h with
  | nil => rfl
  | @snoc as cs x y h hxy ih =>
    have ih := ih fun z hz => hb z (List.mem_append_left _ hz)
    have hx := hb x (List.mem_append_right _ List.mem_cons_self)
    have l2 := (play_len (as := as) (bs := bs)).2
    rw [play_app1, play_app1, ih]
    have e : (ren m 0 (play as bs).2).getD y.box 0 = (play as bs).2.getD x.box 0 := by
      rw [hxy.1, ren_get (by rw [l2]; exact hm.lt hx), hm.ix hx]
    show (_ ++ [(ren m 0 (play as bs).2).getD y.box 0], (ren m 0 (play as bs).2).set y.box (y.d.ap ((ren m 0 (play as bs).2).getD y.box 0))) = (_ ++ [_], ren m 0 ((play as bs).2.set x.box (x.d.ap ((play as bs).2.getD x.box 0))))
    rw [e, hxy.2, ren_set hm l2 hx, hxy.1]
theorem ren_made {m : List Nat} {n : Nat} (hm : Mx m n) {as cs : List Ak} (h : RenAs m as cs) (hb : ∀ x ∈ as, x.box < n) : madeOf cs n = ((madeOf as n).1, ren m look (madeOf as n).2) := by
  induction h with
  | nil =>
    show ([], List.replicate n look) = ([], ren m look (List.replicate n look))
    congr 1
    unfold ren
    rw [List.length_replicate]
    refine List.ext_getElem? fun i => ?_
    rw [List.getElem?_map, List.getElem?_replicate]
    by_cases hi : i < n
    · rw [if_pos hi, List.getElem?_range hi]
      show _ = some ((List.replicate n look).getD _ look)
      rw [List.getD_eq_getElem?_getD, List.getElem?_replicate]
      split <;> rfl
    · rw [if_neg hi, List.getElem?_eq_none (by rw [List.length_range]; omega)] <;> rfl
  | @snoc as cs x y h hxy ih =>
    have ih := ih fun z hz => hb z (List.mem_append_left _ hz)
    have hx := hb x (List.mem_append_right _ List.mem_cons_self)
    have l2 := (made_len (as := as) (n := n)).2
    rw [made_app, made_app, ih]
    have e : (ren m look (madeOf as n).2).getD y.box look = (madeOf as n).2.getD x.box look := by
      rw [hxy.1, ren_get (by rw [l2]; exact hm.lt hx), hm.ix hx]
    show (_ ++ [(ren m look (madeOf as n).2).getD y.box look], (ren m look (madeOf as n).2).set y.box (beh ((ren m look (madeOf as n).2).getD y.box look) y.d)) = (_ ++ [_], ren m look ((madeOf as n).2.set x.box (beh ((madeOf as n).2.getD x.box look) x.d)))
    rw [e, hxy.2, ren_set hm l2 hx, hxy.1]
/-- put in at any place -/
theorem Mx.ins {m : List Nat} {n d : Nat} (h : Mx m n) : Mx (m.take d ++ [n] ++ m.drop d) (n + 1) := by
  refine ⟨?_⟩
  rw [List.range_succ]
  have h1 : (m.take d ++ [n] ++ m.drop d).Perm (n :: m) := by
    rw [List.append_assoc]
    refine (List.perm_middle (a := n) (l₁ := m.take d) (l₂ := m.drop d)).trans ?_
    rw [List.take_append_drop]
  exact h1.trans ((List.Perm.cons n h.pm).trans (List.perm_append_singleton n _).symm)
theorem made_oks {as : List Ak} {n : Nat} : (∀ x ∈ as, x.box < n ∧ x.d.Ok) → (∀ d ∈ (madeOf as n).1, d.Ok) ∧ ∀ b, b < n → ((madeOf as n).2.getD b look).Ok := by
  intro h
  refine ⟨?_, fun b hb => by rw [made_get hb fun x hx => (h x hx).1]; exact behs_ok (boxd_ok fun x hx => (h x hx).2)⟩
  induction as using snoc_ind with
  | nil => exact fun d hd => nomatch hd
  | snoc as x ih =>
    intro d hd
    rw [made_app1] at hd
    have h0 : ∀ y ∈ as, y.box < n ∧ y.d.Ok := fun y hy => h y (List.mem_append_left _ hy)
    have hx := h x (List.mem_append_right _ List.mem_cons_self)
    rcases List.mem_append.mp hd with hd | hd
    · exact ih h0 d hd
    · cases List.mem_singleton.mp hd
      rw [made_get hx.1 fun y hy => (h0 y hy).1]
      exact behs_ok (boxd_ok fun y hy => (h0 y hy).2)
theorem Ly.pd (d : Dd) : Ly 1 (Toy.pd d) := by
  obtain ⟨a, l, h⟩ := d
  refine Ly.tup fun x hx => ?_
  simp only [List.mem_cons, List.not_mem_nil, or_false] at hx
  rcases hx with rfl | rfl | rfl
  · exact .int
  · cases l <;> first | exact .non | exact .int
  · cases h <;> first | exact .non | exact .int
theorem Ly.refs (ds : List Dd) : Ly 2 (refsD ds) := .tup fun x hx => by
  obtain ⟨d, _, rfl⟩ := List.mem_map.mp hx
  exact .pd d
theorem Ly.two (s : List Int × List Int) : Ly 2 (twoD s) := .tup2 .tupI .tupI
theorem parted_succ {as cs : List Ak} {n i : Nat} (hi : i < cs.length) : (parted as cs n).take (i + 1) = (parted as cs n).take i ++ [beh ((madeOf as n).2.getD ((cs.map Ak.box).getD i 0) look) ((madeOf cs n).1.getD i look)] := by
  refine take_snoc ?_
  unfold parted
  rw [List.getElem?_map, List.getElem?_range hi] <;> rfl
theorem parted_len {as cs : List Ak} {n : Nat} : (parted as cs n).length = cs.length := by unfold parted; rw [List.length_map, List.length_range]
def dfA : Ak := ⟨0, 0, 0, 0, look⟩
theorem iN_getD {xs : List Nat} {y : V} {i : Nat} (h : ((iN xs).map V.int)[i]? = some y) : ∃ n : Nat, y = .int (n : Nat) ∧ xs[i]? = some n ∧ n ∈ xs ∧ i < xs.length := by
  obtain ⟨n, e, hn⟩ := iN_mem h
  exact ⟨n, e, hn, List.mem_of_getElem? hn, (List.getElem?_eq_some_iff.mp hn).1⟩
theorem atR {as : List Ak} {j : Nat} (h : j < as.length) : atI (as.map fun x => V.ref x.a) (j : Int) = some (.ref (as.getD j dfA).a) := atI_nat (by rw [List.getElem?_map, List.getElem?_eq_getElem h, List.getD_eq_getElem?_getD, List.getElem?_eq_getElem h] <;> rfl)
theorem atN {xs : List Int} {j : Nat} (h : j < xs.length) : atI (xs.map V.int) (j : Int) = some (.int (xs.getD j 0)) := atI_nat (map_getD h)
theorem takeS {α β : Type} {l : List α} {f : α → β} {i : Nat} {x : α} (h : l[i]? = some x) : (l.take (i + 1)).map f = (l.take i).map f ++ [f x] := by rw [take_snoc h, List.map_append] <;> rfl
section
variable {P : Program} {w : World} {K : PySem.W.Frag} {mg : Str → Option Value} {base : Heap} (B : Bl K mg)
include B
/-! ### the program -/
def spIsWhole : Sp := fun vs H Q _ => ∃ i, vs = [.int i] ∧ Q (.bl true) H
theorem k_is_whole (D : Df K mg "is_whole" s_is_whole ["thing"]) : Dn P w K mg base 1 "is_whole" ["thing"] spIsWhole := by
  refine D.ok fun f fd F => okG0 F sc_is_whole (fun vs H Q E h => ?_) (fun cdv A outer s H vs Q E hr h => ⟨_, (pss_one (ps_ret (pe_and (pe_callB (kk (K := K) (F := rIsi) (P := CallR _ _) call_isi) (by rfl) B.isinstance_ (by decide +kernel) (pa_cons (pv 0) (pa_cons (pe_bltn (v := .ty "int") (u := .type "int") (by rfl) B.int_ (by decide +kernel) rfl) pa_nil))) (pe_one (pe_not (pe_callB (kk (K := K) (F := rIsi) (P := CallR _ _) call_isi) (by rfl) B.isinstance_ (by decide +kernel) (pa_cons (pv 0) (pa_cons (pe_bltn (v := .ty "bool") (u := .type "bool") (by rfl) B.bool_ (by decide +kernel) rfl) pa_nil)))))))), ?_⟩)
  · obtain ⟨i, rfl, _⟩ := h; rfl
  · obtain ⟨i, rfl, q⟩ := h
    refine ⟨_, rfl, _, _, _, _, _, rfl, .ty _, .base (.int _), kit_ty (b := "int") (r := true) (by decide +kernel), _, rfl, iteT ?_⟩
    refine ⟨_, rfl, _, _, _, _, _, rfl, .ty _, .base (.int _), kit_ty (b := "bool") (r := false) (by decide +kernel), _, rfl, ?_⟩
    exact q
def spIsRow (K : PySem.W.Frag) : Sp := fun vs H Q _ => ∃ (a : Addr) (xs : List V) (n : Int), vs = [.ref a, .int n] ∧ TyX K H (.ref a) (.type "tuple") ∧ SqT K H a xs ∧ Q (.bl (decide (V.int (xs.length : Int) = V.int n))) H
theorem k_is_row_of (D : Df K mg "is_row_of" s_is_row_of ["thing", "many"]) : Dn P w K mg base 1 "is_row_of" ["thing", "many"] (spIsRow K) := by
  refine D.ok fun f fd F => okG0 F sc_is_row_of (fun vs H Q E h => ?_) (fun cdv A outer s H vs Q E hr h => ⟨_, (pss_one (ps_ret (pe_and (pe_callB (kk (K := K) (F := rIsi) (P := CallR _ _) call_isi) (by rfl) B.isinstance_ (by decide +kernel) (pa_cons (pv 0) (pa_cons (pe_bltn (v := .ty "tuple") (u := .type "tuple") (by rfl) B.tuple_ (by decide +kernel) rfl) pa_nil))) (pe_one (pe_cmpR op_eq (pe_callB (lenK (K := K)) (by rfl) B.len_ (by decide +kernel) (pa_cons (pv 0) pa_nil)) (pv 1) (nomark _)))))), ?_⟩)
  · obtain ⟨a, xs, i, rfl, _⟩ := h; rfl
  · obtain ⟨a, xs, i, rfl, ht, hx, q⟩ := h
    refine ⟨_, rfl, _, _, _, _, _, rfl, .ty _, ht, kit_ty (b := "tuple") (r := true) (by decide +kernel), _, rfl, iteT ?_⟩
    exact ⟨_, rfl, a, xs, rfl, .inr hx, _, rfl, rfl, q⟩
def spIsEnd : Sp := fun vs H Q _ => ∃ o, vs = [oV o] ∧ Q (.bl true) H
theorem k_is_end (D : Df K mg "is_end" s_is_end ["thing"]) (D_is_whole : Dn P w K mg base 1 "is_whole" ["thing"] spIsWhole) : Dn P w K mg base 2 "is_end" ["thing"] spIsEnd := by
  refine D.ok fun f fd F => okG0 F sc_is_end (fun vs H Q E h => ?_) (fun cdv A outer s H vs Q E hr h => ⟨_, (pss_one (ps_ret (pe_or (pe_cmpR op_isN (pv 0) pe_non (nomark _)) (pe_one (pe_cD D_is_whole (hr.less (by decide)) rfl (pa_cons (pv 0) pa_nil)))))), ?_⟩)
  · obtain ⟨i, rfl, _⟩ := h; rfl
  · obtain ⟨o, rfl, q⟩ := h
    cases o with
    | none => exact ⟨_, rfl, rfl, _, rfl, iteT q⟩
    | some i => exact ⟨_, rfl, rfl, _, rfl, iteF ⟨_, rfl, i, rfl, q⟩⟩
def spIsDeed (K : PySem.W.Frag) : Sp := fun vs H Q _ => ∃ a d, vs = [.ref a] ∧ DeedArg K H a d ∧ Q (.bl true) H
theorem k_is_deed (D : Df K mg "is_deed" s_is_deed ["thing"]) (D_is_whole : Dn P w K mg base 1 "is_whole" ["thing"] spIsWhole) (D_is_row_of : Dn P w K mg base 1 "is_row_of" ["thing", "many"] (spIsRow K)) (D_is_end : Dn P w K mg base 2 "is_end" ["thing"] spIsEnd) : Dn P w K mg base 3 "is_deed" ["thing"] (spIsDeed K) := by
  refine D.ok fun f fd F => okG0 F sc_is_deed (fun vs H Q E h => ?_) (fun cdv A outer s H vs Q E hr h => ⟨_, (pss_cons (ps_if (PW.pt (pw_or (pt_not (pt_val (pe_cD D_is_row_of (hr.less (by decide)) rfl (pa_cons (pv 0) (pa_cons pe_int pa_nil))))) (pw_or (pt_not (pt_val (pe_cD D_is_whole (hr.less (by decide)) rfl (pa_cons (pe_ix (kk (K := K) (F := rIxT) (P := IxR _) ix_tup) (pv 0) pe_int (fun _ _ => rfl)) pa_nil)))) (pw_or (pt_not (pt_val (pe_cD D_is_end (hr.less (by decide)) rfl (pa_cons (pe_ix (kk (K := K) (F := rIxT) (P := IxR _) ix_tup) (pv 0) pe_int (fun _ _ => rfl)) pa_nil)))) (pw_or1 (pt_not (pt_val (pe_cD D_is_end (hr.less (by decide)) rfl (pa_cons (pe_ix (kk (K := K) (F := rIxT) (P := IxR _) ix_tup) (pv 0) pe_int (fun _ _ => rfl)) pa_nil)))))))))
      (pss_one (ps_ret pe_bl))
      pss_nil)
    (pss_cons (ps_asg (pv 0) (kk (K := K) (F := fun K => gTup K 3 _) (P := PG _ _) (pg_tup rfl (pgs_cons (pg_name (i := 1) sc_is_deed.nd rfl (Or.inl rfl)) (pgs_cons (pg_name (i := 2) sc_is_deed.nd rfl (Or.inl rfl)) (pgs_cons (pg_name (i := 3) sc_is_deed.nd rfl (Or.inl rfl)) pgs_nil))))))
    (pss_cons (ps_if (PW.pt (pw_or (pt_cmpR op_isN (pv 2) pe_non (nomark _)) (pw_or1 (pt_cmpR op_isN (pv 3) pe_non (nomark _)))))
      (pss_one (ps_ret pe_bl))
      pss_nil)
    (pss_one (ps_ret (pe_or (pe_cmpR op_lt (pv 2) (pv 3) (nomark _)) (pe_one (pe_and (pe_cmpR op_eq (pv 2) (pv 3) (nomark _)) (pe_one (pe_cmpR op_eq (pv 1) pe_int (nomark _))))))))))), ?_⟩)
  · obtain ⟨a, d, rfl, _⟩ := h; rfl
  · obtain ⟨a, d, rfl, ⟨ht, hx, ok⟩, q⟩ := h
    refine ⟨_, rfl, a, _, 3, rfl, ht, hx, _, rfl, iteF ?_⟩
    refine ⟨_, rfl, a, _, _, _, rfl, rfl, hx, at_of (j := 0) rfl rfl, _, rfl, _, rfl, iteF ?_⟩
    refine ⟨_, rfl, a, _, _, _, rfl, rfl, hx, at_of (j := 1) rfl rfl, d.low, rfl, _, rfl, iteF ?_⟩
    refine ⟨_, rfl, a, _, _, _, rfl, rfl, hx, at_of (j := 2) rfl rfl, d.high, rfl, _, rfl, iteF ?_⟩
    refine ⟨_, rfl, a, _, rfl, hx, rfl, _, _, rfl, _, _, rfl, _, _, rfl, rfl, ?_⟩
    obtain ⟨add, low, high⟩ := d
    cases low with
    | none => exact ⟨_, rfl, rfl, _, rfl, iteT (iteT q)⟩
    | some l =>
      refine ⟨_, rfl, rfl, _, rfl, iteF ?_⟩
      cases high with
      | none => exact ⟨_, rfl, rfl, _, rfl, iteT q⟩
      | some h =>
        refine ⟨_, rfl, rfl, _, rfl, iteF ?_⟩
        refine ⟨_, rfl, _, rfl, _, _, rfl, rfl, _, rfl, ite2 (fun c => q) (fun c => ?_)⟩
        have := ok l h rfl rfl
        have c' : ¬ l < h := of_decide_eq_false (Bool.eq_false_iff.mpr c)
        obtain ⟨e1, e2⟩ : l = h ∧ add = 0 := by
          rcases this with h1 | h1
          · exact absurd h1 c'
          · exact h1
        subst e1 e2
        refine ⟨_, rfl, _, rfl, rfl, _, rfl, ?_⟩
        exact ifT (decide_eq_true rfl) ⟨_, rfl, rfl, q⟩
def spWantDeed (K : PySem.W.Frag) : Sp := fun vs H Q _ => ∃ a d, vs = [.ref a] ∧ DeedArg K H a d ∧ Q .non H
theorem k_want_deed (D : Df K mg "want_deed" s_want_deed ["thing"]) (D_is_deed : Dn P w K mg base 3 "is_deed" ["thing"] (spIsDeed K)) : Dn P w K mg base 4 "want_deed" ["thing"] (spWantDeed K) := by
  refine D.ok fun f fd F => okG0 F sc_want_deed (fun vs H Q E h => ?_) (fun cdv A outer s H vs Q E hr h => ⟨_, (pss_one (ps_if (pt_not (pt_val (pe_cD D_is_deed (hr.less (by decide)) rfl (pa_cons (pv 0) pa_nil))))
     (pss_one ps_never)
     pss_nil)), ?_⟩)
  · obtain ⟨a, d, rfl, _⟩ := h; rfl
  · obtain ⟨a, d, rfl, hd, q⟩ := h
    exact ⟨_, rfl, a, d, rfl, hd, _, rfl, iteF q⟩
def spPut (K : PySem.W.Frag) : Sp := fun vs H Q _ => ∃ a d v, vs = [.ref a, .int v] ∧ SqT K H a (Dd.vs d) ∧ Q (.int (d.ap v)) H
theorem k_put_through (D : Df K mg "put_through" s_put_through ["deed", "value"]) : Dn P w K mg base 1 "put_through" ["deed", "value"] (spPut K) := by
  refine D.ok fun f fd F => okG0 F sc_put_through (fun vs H Q E h => ?_) (fun cdv A outer s H vs Q E hr h => ⟨_, (pss_cons (ps_asg (pv 0) (kk (K := K) (F := fun K => gTup K 3 _) (P := PG _ _) (pg_tup rfl (pgs_cons (pg_name (i := 2) sc_put_through.nd rfl (Or.inl rfl)) (pgs_cons (pg_name (i := 3) sc_put_through.nd rfl (Or.inl rfl)) (pgs_cons (pg_name (i := 4) sc_put_through.nd rfl (Or.inl rfl)) pgs_nil))))))
    (pss_cons (ps_set (i := 5) sc_put_through.nd rfl (Or.inl rfl) (pe_op op_add (pv 1) (pv 2)))
    (pss_cons (ps_if (pt_cmpR op_notN (pv 3) pe_non (nomark _))
      (pss_one (ps_set (i := 5) sc_put_through.nd rfl (Or.inl rfl) (pe_callB (call_max2 rfl) (by rfl) B.max_ (by decide +kernel) (pa_cons (pv 3) (pa_cons (pv 5) pa_nil)))))
      pss_nil)
    (pss_one (ps_ret (pe_ifExp (pt_cmpR op_isN (pv 4) pe_non (nomark _)) (pv 5) (pe_callB (call_min2 rfl) (by rfl) B.min_ (by decide +kernel) (pa_cons (pv 4) (pa_cons (pv 5) pa_nil))))))))), ?_⟩)
  · obtain ⟨a, d, v, rfl, _⟩ := h; rfl
  · obtain ⟨a, d, v, rfl, hx, q⟩ := h
    refine ⟨_, rfl, a, _, rfl, hx, rfl, _, _, rfl, _, _, rfl, _, _, rfl, rfl, ?_⟩
    refine ⟨_, rfl, _, rfl, _, _, rfl, rfl, ?_⟩
    obtain ⟨add, low, high⟩ := d
    cases low with
    | none =>
      refine ⟨_, rfl, rfl, _, rfl, iteF ?_⟩
      cases high with
      | none => exact ⟨_, rfl, rfl, _, rfl, iteT ⟨_, rfl, q⟩⟩
      | some h => exact ⟨_, rfl, rfl, _, rfl, iteF ⟨_, rfl, _, rfl, _, _, rfl, q⟩⟩
    | some l =>
      refine ⟨_, rfl, rfl, _, rfl, iteT ⟨_, rfl, _, rfl, _, _, rfl, ?_⟩⟩
      cases high with
      | none => exact ⟨_, rfl, rfl, _, rfl, iteT ⟨_, rfl, q⟩⟩
      | some h => exact ⟨_, rfl, rfl, _, rfl, iteF ⟨_, rfl, _, rfl, _, _, rfl, q⟩⟩
def spWholeDeed : Sp := fun vs H Q _ => ∃ (add : Int) (low high : Option Int), vs = [.int add, oV low, oV high] ∧ NewD H Q (wholeD add low high)
theorem k_whole_deed (D : Df K mg "whole_deed" s_whole_deed ["add", "low", "high"]) : Dn P w K mg base 1 "whole_deed" ["add", "low", "high"] spWholeDeed := by
  refine D.ok fun f fd F => okG0 F sc_whole_deed (fun vs H Q E h => ?_) (fun cdv A outer s H vs Q E hr h => ⟨_, (pss_cons (ps_if (PW.pt (pw_and (pt_cmpR op_notN (pv 1) pe_non (nomark _)) (pw_and1 (pt_cmpR op_eq (pv 1) (pv 2) (nomark _)))))
      (pss_one (ps_ret (pe_tup (pa_cons pe_int (pa_cons (pv 1) (pa_cons (pv 2) pa_nil))))))
      pss_nil)
    (pss_one (ps_ret (pe_tup (pa_cons (pv 0) (pa_cons (pv 1) (pa_cons (pv 2) pa_nil))))))), ?_⟩)
  · obtain ⟨add, low, high, rfl, _⟩ := h; rfl
  · obtain ⟨add, low, high, rfl, q⟩ := h
    have key : ∀ d : Dd, wholeD add low high = d → tRet (tTup (tCons (tC (.int d.add)) (tCons (tC (oV d.low)) (tCons (tC (oV d.high)) tNil)))) { nx := fun _ H' => Q .non H', rt := Q } (start ["add", "low", "high"] [.int add, oV low, oV high]) H := by
      rintro d rfl
      exact ⟨sz, fun p hp => q p _ (same_new hp _) hp upd_same⟩
    cases low with
    | none =>
      refine ⟨_, rfl, rfl, _, rfl, iteF (iteF ?_)⟩
      have := key ⟨add, none, high⟩ (if_neg fun z => z.1 rfl)
      exact ⟨_, rfl, _, rfl, _, rfl, this⟩
    | some l =>
      refine ⟨_, rfl, rfl, _, rfl, iteT ⟨_, rfl, _, rfl, ?_⟩⟩
      cases high with
      | none =>
        have := key ⟨add, some l, none⟩ (if_neg fun z => nomatch z.2)
        exact ⟨rfl, _, rfl, iteF ⟨_, rfl, _, rfl, _, rfl, this⟩⟩
      | some h =>
        refine ⟨rfl, _, rfl, ite2 (fun c => ?_) (fun c => ?_)⟩
        · have c' : l = h := by have := of_decide_eq_true c; cases this; rfl
          have := key ⟨0, some l, some h⟩ (if_pos ⟨Option.some_ne_none l, by rw [c']⟩)
          exact ⟨_, rfl, _, rfl, this⟩
        · have c' : ¬ l = h := fun e => c (decide_eq_true (by rw [e]))
          have := key ⟨add, some l, some h⟩ (if_neg fun z => c' (Option.some.inj z.2))
          exact ⟨_, rfl, _, rfl, _, rfl, this⟩
def spBehind (K : PySem.W.Frag) : Sp := fun vs H Q _ => ∃ (a b : Addr) (d e : Dd), vs = [.ref a, .ref b] ∧ SqT K H a d.vs ∧ SqT K H b e.vs ∧ NewD H Q (beh d e)
theorem k_one_behind (D : Df K mg "one_behind" s_one_behind ["one", "other"]) (D_put_through : Dn P w K mg base 1 "put_through" ["deed", "value"] (spPut K)) (D_whole_deed : Dn P w K mg base 1 "whole_deed" ["add", "low", "high"] spWholeDeed) : Dn P w K mg base 2 "one_behind" ["one", "other"] (spBehind K) := by
  refine D.ok fun f fd F => okG0 F sc_one_behind (fun vs H Q E h => ?_) (fun cdv A outer s H vs Q E hr h => ⟨_, (pss_cons (ps_par (i := 2) (j := 3) rfl sc_one_behind.nd rfl rfl (by decide) rfl rfl (pa_cons (pe_ix (kk (K := K) (F := rIxT) (P := IxR _) ix_tup) (pv 1) pe_int (fun _ _ => rfl)) (pa_cons (pe_ix (kk (K := K) (F := rIxT) (P := IxR _) ix_tup) (pv 1) pe_int (fun _ _ => rfl)) pa_nil)) (by rfl))
    (pss_cons (ps_if (pt_cmpR op_notN (pe_ix (kk (K := K) (F := rIxT) (P := IxR _) ix_tup) (pv 0) pe_int (fun _ _ => rfl)) pe_non (nomark _))
      (pss_one (ps_set (i := 2) sc_one_behind.nd rfl (Or.inl rfl) (pe_cD D_put_through (hr.less (by decide)) rfl (pa_cons (pv 1) (pa_cons (pe_ix (kk (K := K) (F := rIxT) (P := IxR _) ix_tup) (pv 0) pe_int (fun _ _ => rfl)) pa_nil)))))
      pss_nil)
    (pss_cons (ps_if (pt_cmpR op_notN (pe_ix (kk (K := K) (F := rIxT) (P := IxR _) ix_tup) (pv 0) pe_int (fun _ _ => rfl)) pe_non (nomark _))
      (pss_one (ps_set (i := 3) sc_one_behind.nd rfl (Or.inl rfl) (pe_cD D_put_through (hr.less (by decide)) rfl (pa_cons (pv 1) (pa_cons (pe_ix (kk (K := K) (F := rIxT) (P := IxR _) ix_tup) (pv 0) pe_int (fun _ _ => rfl)) pa_nil)))))
      pss_nil)
    (pss_one (ps_ret (pe_cD D_whole_deed (hr.less (by decide)) rfl (pa_cons (pe_op op_add (pe_ix (kk (K := K) (F := rIxT) (P := IxR _) ix_tup) (pv 0) pe_int (fun _ _ => rfl)) (pe_ix (kk (K := K) (F := rIxT) (P := IxR _) ix_tup) (pv 1) pe_int (fun _ _ => rfl))) (pa_cons (pv 2) (pa_cons (pv 3) pa_nil))))))))), ?_⟩)
  · obtain ⟨a, b, d, e, rfl, _⟩ := h; rfl
  · obtain ⟨a, b, d, e, rfl, ha, hb, q⟩ := h
    refine ⟨_, rfl, b, _, _, _, rfl, rfl, hb, at_of (j := 1) rfl rfl, _, rfl, b, _, _, _, rfl, rfl, hb, at_of (j := 2) rfl rfl, _, _, rfl, ?_⟩
    refine ⟨_, rfl, a, _, _, _, rfl, rfl, ha, at_of (j := 1) rfl rfl, rfl, _, rfl, ?_⟩
    have fin : ∀ lo hi : Option Int, endBeh e d.low e.low = lo → endBeh e d.high e.high = hi → tRet (tCall spWholeDeed [] E0 (tCons (tOp (rI0 fun i j => V.int (i + j)) (tOp (rIxT K) (tVar 0) (tC (.int 0))) (tOp (rIxT K) (tVar 1) (tC (.int 0)))) (tCons (tVar 2) (tCons (tVar 3) tNil)))) { nx := fun _ H' => Q .non H', rt := Q }
        [some (.ref a), some (.ref b), some (oV lo), some (oV hi)] H := by
      rintro _ _ rfl rfl
      exact ⟨_, rfl, a, _, _, _, rfl, rfl, ha, at_of (j := 0) rfl rfl, _, rfl, b, _, _, _, rfl, rfl, hb, at_of (j := 0) rfl rfl, _, _, rfl, rfl, _, rfl, _, rfl, _, _, _, rfl, q⟩
    have hi : ∀ lo : Option Int, endBeh e d.low e.low = lo → tSeq (tIfS (tTest (tOp (fun x y H Q => y = V.non ∧ Q (V.bl (!decide (x = V.non))) H) (tOp (rIxT K) (tVar 0) (tC (.int 2))) (tC .non))) (tAsg (tCall (spPut K) [] E0 (tCons (tVar 1) (tCons (tOp (rIxT K) (tVar 0) (tC (.int 2))) tNil))) (gName 3)) tNext)
        (tRet (tCall spWholeDeed [] E0 (tCons (tOp (rI0 fun i j => V.int (i + j)) (tOp (rIxT K) (tVar 0) (tC (.int 0))) (tOp (rIxT K) (tVar 1) (tC (.int 0)))) (tCons (tVar 2) (tCons (tVar 3) tNil))))) { nx := fun _ H' => Q .non H', rt := Q }
        [some (.ref a), some (.ref b), some (oV lo), some (oV e.high)] H := by
      intro lo hlo
      refine ⟨_, rfl, a, _, _, _, rfl, rfl, ha, at_of (j := 2) rfl rfl, rfl, _, rfl, ?_⟩
      cases eh : d.high with
      | none => exact iteF (fin lo e.high hlo (by rw [eh] <;> rfl))
      | some k =>
        refine iteT ⟨_, rfl, _, rfl, a, _, _, _, rfl, rfl, ha, at_of (j := 2) rfl rfl, b, e, k, by rw [eh] <;> rfl, hb, ?_⟩
        exact fin lo (some _) hlo (by rw [eh] <;> rfl)
    cases el : d.low with
    | none => exact iteF (hi e.low (by rw [el] <;> rfl))
    | some k =>
      refine iteT ⟨_, rfl, _, rfl, a, _, _, _, rfl, rfl, ha, at_of (j := 1) rfl rfl, b, e, k, by rw [el] <;> rfl, hb, ?_⟩
      exact hi (some _) (by rw [el] <;> rfl)
def spThen (K : PySem.W.Frag) : Sp := fun vs H Q _ => ∃ (a b : Addr) (d e : Dd), vs = [.ref a, .ref b] ∧ DeedArg K H a d ∧ DeedArg K H b e ∧ NewD H Q (beh d e)
theorem k_then (D : Df K mg "then" s_then ["one", "other"]) (D_want_deed : Dn P w K mg base 4 "want_deed" ["thing"] (spWantDeed K)) (D_one_behind : Dn P w K mg base 2 "one_behind" ["one", "other"] (spBehind K)) : Dn P w K mg base 5 "then" ["one", "other"] (spThen K) := by
  refine D.ok fun f fd F => okG0 F sc_then (fun vs H Q E h => ?_) (fun cdv A outer s H vs Q E hr h => ⟨_, (pss_cons (ps_expr (pe_cD D_want_deed (hr.less (by decide)) rfl (pa_cons (pv 0) pa_nil)))
    (pss_cons (ps_expr (pe_cD D_want_deed (hr.less (by decide)) rfl (pa_cons (pv 1) pa_nil)))
    (pss_one (ps_ret (pe_cD D_one_behind (hr.less (by decide)) rfl (pa_cons (pv 0) (pa_cons (pv 1) pa_nil))))))), ?_⟩)
  · obtain ⟨a, b, d, e, rfl, _⟩ := h; rfl
  · obtain ⟨a, b, d, e, rfl, ha, hb, q⟩ := h
    exact ⟨_, rfl, a, d, rfl, ha, _, rfl, b, e, rfl, hb, _, rfl, _, rfl, a, b, d, e, rfl, ha.2.1, hb.2.1, q⟩
def spIsBoard (K : PySem.W.Frag) : Sp := fun vs H Q _ => ∃ (b : Addr) (bs : List Int), vs = [.ref b] ∧ BoardAt H b bs ∧ ∀ H', Same H H' → Q (.bl true) H'
theorem k_is_board (D : Df K mg "is_board" s_is_board ["thing"]) (D_is_whole : Dn P w K mg base 1 "is_whole" ["thing"] spIsWhole) : Dn P w K mg base 2 "is_board" ["thing"] (spIsBoard K) := by
  refine D.ok fun f fd F => okG0 F sc_is_board (fun vs H Q E h => ?_) (fun cdv A outer s H vs Q E hr h => ⟨_, (pss_one (ps_ret (pe_and (pe_callB (kk (K := K) (F := rIsi) (P := CallR _ _) call_isi) (by rfl) B.isinstance_ (by decide +kernel) (pa_cons (pv 0) (pa_cons (pe_bltn (v := .ty "tuple") (u := .type "tuple") (by rfl) B.tuple_ (by decide +kernel) rfl) pa_nil))) (pe_and (pe_chain op_le op_le pe_int (pe_callB (lenK (K := K)) (by rfl) B.len_ (by decide +kernel) (pa_cons (pv 0) pa_nil)) (pe_glob (v := .int (16)) (u := .int (16) B.MOST_BOXES_.choose) (by rfl) B.MOST_BOXES_.choose_spec ⟨_, rfl⟩)) (pe_one (pe_callB (kk (K := K) (F := rAll) (P := CallR _ _) (cr_all rfl)) (by rfl) B.all_ (by decide +kernel) (pa_cons (pe_lc (own := [("value", 1)]) (g := gName 1) (tt := tYes) rfl sc_is_board.nd (kk (K := K) (F := fun K => iTup K _) (P := PI _ _ _) (pi_tup (pv 0))) (blkOk_by (own := [("value", 1)]) (N := ["thing", "value"]) (sc := defScope s_is_board) (by decide +kernel)) (fun _ _ _ _ _ => (pg_name (i := 1) sc_is_board.nd rfl (Or.inl rfl))) (fun _ _ _ _ _ => pts_nil) (fun _ _ _ _ _ => (pe_cD D_is_whole (hr.less (by decide)) rfl (pa_cons (pv 1) pa_nil)))) pa_nil))))))), ?_⟩)
  · obtain ⟨b, bs, rfl, _⟩ := h; rfl
  · obtain ⟨b, bs, rfl, hb, q⟩ := h
    have hl := hb.2
    refine ⟨_, rfl, _, _, _, _, _, rfl, .ty _, .base (.tup hb.1), kit_ty (b := "tuple") (r := true) (by decide +kernel), _, rfl, iteT ?_⟩
    refine ⟨_, rfl, b, _, rfl, .inr (SqT.of hb.1), ?_⟩
    refine ⟨_, _, rfl, rfl, _, rfl, ifT (by rw [List.length_map]; exact decide_eq_true (by omega)) ?_⟩
    refine ⟨_, _, rfl, rfl, _, rfl, ifT (by rw [List.length_map]; exact decide_eq_true (by omega)) ?_⟩
    refine ⟨_, rfl, b, rfl, ⟨_, SqT.of hb.1⟩, fun D hD => ?_⟩
    refine lc_tup (K := K) (a := b) (xs := bs.map V.int) (fun i H2 => Same H H2 ∧ H2 D = some (.lst ((List.replicate i true).map V.bl))) ⟨same_new hD _, upd_same⟩ (fun i H2 _ h => SqT.of (h.1 _ _ hb.1)) ?_ ?_
    · rintro i y H2 hi ⟨S2, hD2⟩
      obtain ⟨x, rfl, hx⟩ := at_map hi
      have hi2 : i < bs.length := (List.getElem?_eq_some_iff.mp hx).1
      refine ⟨rfl, ?_⟩
      exact ⟨_, rfl, x, rfl, _, hD2, by rw [rep_len]; exact small1000 (by omega), but_same hD S2 But.upd, by rw [upd_same, rep_snoc]⟩
    · rintro H2 ⟨S2, hD2⟩
      refine ⟨D, _, rfl, SqL.of hD2, ?_⟩
      rw [rep_all]
      exact q _ S2
def spWantBoard (K : PySem.W.Frag) : Sp := fun vs H Q _ => ∃ (b : Addr) (bs : List Int), vs = [.ref b] ∧ BoardAt H b bs ∧ ∀ H', Same H H' → Q .non H'
theorem k_want_board (D : Df K mg "want_board" s_want_board ["board"]) (D_is_board : Dn P w K mg base 2 "is_board" ["thing"] (spIsBoard K)) : Dn P w K mg base 3 "want_board" ["board"] (spWantBoard K) := by
  refine D.ok fun f fd F => okG0 F sc_want_board (fun vs H Q E h => ?_) (fun cdv A outer s H vs Q E hr h => ⟨_, (pss_one (ps_if (pt_not (pt_val (pe_cD D_is_board (hr.less (by decide)) rfl (pa_cons (pv 0) pa_nil))))
     (pss_one ps_never)
     pss_nil)), ?_⟩)
  · obtain ⟨b, bs, rfl, _⟩ := h; rfl
  · obtain ⟨b, bs, rfl, hb, q⟩ := h
    exact ⟨_, rfl, b, bs, rfl, hb, fun H' S => ⟨_, rfl, iteF (q _ S)⟩⟩
def spIsAsk (K : PySem.W.Frag) : Sp := fun vs H Q _ => ∃ (b : Addr) (bs : List Int) (x : Ak), vs = [.ref b, .ref x.a] ∧ BoardAt H b bs ∧ x.at_ H bs.length ∧ Q (.bl true) H
theorem k_is_ask (D : Df K mg "is_ask" s_is_ask ["board", "thing"]) (D_is_whole : Dn P w K mg base 1 "is_whole" ["thing"] spIsWhole) (D_is_deed : Dn P w K mg base 3 "is_deed" ["thing"] (spIsDeed K)) : Dn P w K mg base 4 "is_ask" ["board", "thing"] (spIsAsk K) := by
  refine D.ok fun f fd F => okG0 F sc_is_ask (fun vs H Q E h => ?_) (fun cdv A outer s H vs Q E hr h => ⟨_, (pss_cons (ps_if (PW.pt (pw_or (pt_not (pt_val (pe_callB (kk (K := K) (F := rIsi) (P := CallR _ _) call_isi) (by rfl) B.isinstance_ (by decide +kernel) (pa_cons (pv 1) (pa_cons (pe_bltn (v := .ty "tuple") (u := .type "tuple") (by rfl) B.tuple_ (by decide +kernel) rfl) pa_nil))))) (pw_or (pt_cmpR op_ne (pe_callB (lenK (K := K)) (by rfl) B.len_ (by decide +kernel) (pa_cons (pv 1) pa_nil)) pe_int (nomark _)) (pw_or (pt_not (pt_val (pe_cD D_is_whole (hr.less (by decide)) rfl (pa_cons (pe_ix (kk (K := K) (F := rIxT) (P := IxR _) ix_tup) (pv 1) pe_int (fun _ _ => rfl)) pa_nil)))) (pw_or1 (pt_not (pt_val (pe_cD D_is_whole (hr.less (by decide)) rfl (pa_cons (pe_ix (kk (K := K) (F := rIxT) (P := IxR _) ix_tup) (pv 1) pe_int (fun _ _ => rfl)) pa_nil)))))))))
      (pss_one (ps_ret pe_bl))
      pss_nil)
    (pss_one (ps_ret (pe_and (pe_chain op_le op_lt pe_int (pe_ix (kk (K := K) (F := rIxT) (P := IxR _) ix_tup) (pv 1) pe_int (fun _ _ => rfl)) (pe_glob (v := .int (16)) (u := .int (16) B.HANDS_.choose) (by rfl) B.HANDS_.choose_spec ⟨_, rfl⟩)) (pe_and (pe_chain op_le op_lt pe_int (pe_ix (kk (K := K) (F := rIxT) (P := IxR _) ix_tup) (pv 1) pe_int (fun _ _ => rfl)) (pe_callB (lenK (K := K)) (by rfl) B.len_ (by decide +kernel) (pa_cons (pv 0) pa_nil))) (pe_one (pe_cD D_is_deed (hr.less (by decide)) rfl (pa_cons (pe_ix (kk (K := K) (F := rIxT) (P := IxR _) ix_tup) (pv 1) pe_int (fun _ _ => rfl)) pa_nil)))))))), ?_⟩)
  · obtain ⟨b, bs, x, rfl, _⟩ := h; rfl
  · obtain ⟨b, bs, x, rfl, hb, hx, q⟩ := h
    obtain ⟨hxa, hxd, h0, h1, hbx⟩ := hx
    refine ⟨_, rfl, _, _, _, _, _, rfl, .ty _, .base (.tup hxa), kit_ty (b := "tuple") (r := true) (by decide +kernel), _, rfl, iteF ?_⟩
    refine ⟨_, rfl, _, _, rfl, .inr (SqT.of hxa), rfl, _, rfl, iteF ?_⟩
    refine ⟨_, rfl, x.a, _, _, _, rfl, rfl, SqT.of hxa, at_of (j := 0) rfl rfl, _, rfl, _, rfl, iteF ?_⟩
    refine ⟨_, rfl, x.a, _, _, _, rfl, rfl, SqT.of hxa, at_of (j := 1) rfl rfl, _, rfl, _, rfl, iteF ?_⟩
    refine ⟨_, rfl, x.a, _, _, _, rfl, rfl, SqT.of hxa, at_of (j := 0) rfl rfl, ?_⟩
    refine ⟨_, _, rfl, rfl, _, rfl, ifT (decide_eq_true h0) ?_⟩
    refine ⟨_, _, rfl, rfl, _, rfl, ifT (decide_eq_true h1) ?_⟩
    refine ⟨_, rfl, x.a, _, _, _, rfl, rfl, SqT.of hxa, at_of (j := 1) rfl rfl, ?_⟩
    refine ⟨_, _, rfl, rfl, _, rfl, ifT (decide_eq_true (by omega)) ?_⟩
    refine ⟨_, rfl, b, _, rfl, .inr (SqT.of hb.1), ?_⟩
    refine ⟨_, _, rfl, rfl, _, rfl, ifT (decide_eq_true (by rw [List.length_map]; omega)) ?_⟩
    exact ⟨_, rfl, x.a, _, _, _, rfl, rfl, SqT.of hxa, at_of (j := 2) rfl rfl, x.da, x.d, rfl, hxd.arg, q⟩
def spAreAsks (K : PySem.W.Frag) : Sp := fun vs H Q _ => ∃ (b k : Addr) (bs : List Int) (as : List Ak), vs = [.ref b, .ref k] ∧ BoardAt H b bs ∧ AsksAt H k as bs.length ∧ ∀ H', Same H H' → Q (.bl true) H'
theorem k_are_asks (D : Df K mg "are_asks" s_are_asks ["board", "thing"]) (D_want_board : Dn P w K mg base 3 "want_board" ["board"] (spWantBoard K)) (D_is_ask : Dn P w K mg base 4 "is_ask" ["board", "thing"] (spIsAsk K)) : Dn P w K mg base 5 "are_asks" ["board", "thing"] (spAreAsks K) := by
  refine D.ok fun f fd F => okG0 F sc_are_asks (fun vs H Q E h => ?_) (fun cdv A outer s H vs Q E hr h => ⟨_, (pss_cons (ps_expr (pe_cD D_want_board (hr.less (by decide)) rfl (pa_cons (pv 0) pa_nil)))
    (pss_one (ps_ret (pe_and (pe_callB (kk (K := K) (F := rIsi) (P := CallR _ _) call_isi) (by rfl) B.isinstance_ (by decide +kernel) (pa_cons (pv 1) (pa_cons (pe_bltn (v := .ty "tuple") (u := .type "tuple") (by rfl) B.tuple_ (by decide +kernel) rfl) pa_nil))) (pe_one (pe_callB (kk (K := K) (F := rAll) (P := CallR _ _) (cr_all rfl)) (by rfl) B.all_ (by decide +kernel) (pa_cons (pe_lc (own := [("one", 2)]) (g := gName 2) (tt := tYes) rfl sc_are_asks.nd (kk (K := K) (F := fun K => iTup K _) (P := PI _ _ _) (pi_tup (pv 1))) (blkOk_by (own := [("one", 2)]) (N := ["board", "thing", "one"]) (sc := defScope s_are_asks) (by decide +kernel)) (fun _ _ _ _ _ => (pg_name (i := 2) sc_are_asks.nd rfl (Or.inl rfl))) (fun _ _ _ _ _ => pts_nil) (fun _ _ _ _ _ => (pe_cD D_is_ask (hr.less (by decide)) rfl (pa_cons (pv 0) (pa_cons (pv 2) pa_nil))))) pa_nil))))))), ?_⟩)
  · obtain ⟨b, k, bs, as, rfl, _⟩ := h; rfl
  · obtain ⟨b, k, bs, as, rfl, hb, hk, q⟩ := h
    refine ⟨_, rfl, b, bs, rfl, hb, fun H1 S1 => ?_⟩
    have hk1 := hk.same S1
    refine ⟨_, rfl, _, _, _, _, _, rfl, .ty _, .base (.tup hk1.1), kit_ty (b := "tuple") (r := true) (by decide +kernel), _, rfl, iteT ?_⟩
    refine ⟨_, rfl, k, rfl, ⟨_, SqT.of hk1.1⟩, fun D hD => ?_⟩
    refine lc_tup (K := K) (a := k) (xs := as.map fun x => .ref x.a) (fun i H2 => Same H1 H2 ∧ H2 D = some (.lst ((List.replicate i true).map V.bl))) ⟨same_new hD _, upd_same⟩ (fun i H2 _ h => SqT.of (h.1 _ _ hk1.1)) ?_ ?_
    · rintro i y H2 hi ⟨S2, hD2⟩
      rw [List.getElem?_map] at hi
      obtain ⟨x, hx, rfl⟩ := Option.map_eq_some_iff.mp hi
      have hi2 : i < as.length := (List.getElem?_eq_some_iff.mp hx).1
      have hl := hk.2.1
      refine ⟨rfl, ?_⟩
      exact ⟨_, rfl, _, rfl, b, bs, x, rfl, (hb.same S1).same S2, ((hk1.2.2 x (List.mem_of_getElem? hx)).same S2), _, hD2, by rw [rep_len]; exact small1000 (by omega), but_same hD S2 But.upd, by rw [upd_same, rep_snoc]⟩
    · rintro H2 ⟨S2, hD2⟩
      refine ⟨D, _, rfl, SqL.of hD2, ?_⟩
      rw [rep_all]
      exact q _ (S1.trans S2)
def spWantAsks (K : PySem.W.Frag) : Sp := fun vs H Q _ => ∃ (b k : Addr) (bs : List Int) (as : List Ak), vs = [.ref b, .ref k] ∧ BoardAt H b bs ∧ AsksAt H k as bs.length ∧ ∀ H', Same H H' → Q .non H'
theorem k_want_asks (D : Df K mg "want_asks" s_want_asks ["board", "asks"]) (D_are_asks : Dn P w K mg base 5 "are_asks" ["board", "thing"] (spAreAsks K)) : Dn P w K mg base 6 "want_asks" ["board", "asks"] (spWantAsks K) := by
  refine D.ok fun f fd F => okG0 F sc_want_asks (fun vs H Q E h => ?_) (fun cdv A outer s H vs Q E hr h => ⟨_, (pss_one (ps_if (pt_not (pt_val (pe_cD D_are_asks (hr.less (by decide)) rfl (pa_cons (pv 0) (pa_cons (pv 1) pa_nil)))))
     (pss_one ps_never)
     pss_nil)), ?_⟩)
  · obtain ⟨b, k, bs, as, rfl, _⟩ := h; rfl
  · obtain ⟨b, k, bs, as, rfl, hb, hk, q⟩ := h
    exact ⟨_, rfl, _, rfl, b, k, bs, as, rfl, hb, hk, fun H' S => ⟨_, rfl, iteF (q _ S)⟩⟩
def spPlay (K : PySem.W.Frag) : Sp := fun vs H Q _ => ∃ (b k : Addr) (bs : List Int) (as : List Ak), vs = [.ref b, .ref k] ∧ BoardAt H b bs ∧ AsksAt H k as bs.length ∧
  ∀ r t1 t2 H', Same H H' → H' r = some (.tup [.ref t1, .ref t2]) → H' t1 = some (.tup ((play as bs).1.map V.int)) → H' t2 = some (.tup ((play as bs).2.map V.int)) → Q (.ref r) H'
theorem k_played (D : Df K mg "played" s_played ["board", "asks"]) (D_want_asks : Dn P w K mg base 6 "want_asks" ["board", "asks"] (spWantAsks K)) (D_put_through : Dn P w K mg base 1 "put_through" ["deed", "value"] (spPut K)) : Dn P w K mg base 7 "played" ["board", "asks"] (spPlay K) := by
  refine D.ok fun f fd F => okG0 F sc_played (fun vs H Q E h => ?_) (fun cdv A outer s H vs Q E hr h => ⟨_, (pss_cons (ps_expr (pe_cD D_want_asks (hr.less (by decide)) rfl (pa_cons (pv 0) (pa_cons (pv 1) pa_nil))))
    (pss_cons (ps_set (i := 2) sc_played.nd rfl (Or.inl rfl) (pe_callTy (lstOfK (K := K)) (by rfl) B.list_ (by decide +kernel) (pa_cons (pv 0) pa_nil)))
    (pss_cons (ps_set (i := 3) sc_played.nd rfl (Or.inl rfl) (pe_lst pa_nil))
    (pss_cons (ps_for PassesOwn.never rfl (kk (K := K) (F := fun K => iTup K _) (P := PI _ _ _) (pi_tup (pv 1))) (kk (K := K) (F := fun K => gTup K 3 _) (P := PG _ _) (pg_tup rfl (pgs_cons (pg_name (i := 4) sc_played.nd rfl (Or.inl rfl)) (pgs_cons (pg_name (i := 5) sc_played.nd rfl (Or.inl rfl)) (pgs_cons (pg_name (i := 6) sc_played.nd rfl (Or.inl rfl)) pgs_nil)))))
      (pss_cons (ps_expr (kk (K := K) (F := fun K => tBM K "list" _ _ _) (P := PE _ _) (pe_bm PySem.F.plainAttrs_list PySem.F.slot_list_append PySem.F.type_list_append mt_append (pv 3) (pa_cons (pe_ix (kk (K := K) (F := rIxL) (P := IxR _) ix_list) (pv 2) (pv 5) (fun _ _ => rfl)) pa_nil))))
      (pss_one (ps_asg (pe_cD D_put_through (hr.less (by decide)) rfl (pa_cons (pv 6) (pa_cons (pe_ix (kk (K := K) (F := rIxL) (P := IxR _) ix_list) (pv 2) (pv 5) (fun _ _ => rfl)) pa_nil))) (pg_sub (pv 2) (pv 5) set_list)))))
    (pss_one (ps_ret (pe_tup (pa_cons (pe_callTy (tupOfK (K := K)) (by rfl) B.tuple_ (by decide +kernel) (pa_cons (pv 3) pa_nil)) (pa_cons (pe_callTy (tupOfK (K := K)) (by rfl) B.tuple_ (by decide +kernel) (pa_cons (pv 2) pa_nil)) pa_nil))))))))), ?_⟩)
  · obtain ⟨b, k, bs, as, rfl, _⟩ := h; rfl
  · obtain ⟨b, k, bs, as, rfl, hb, hk, q⟩ := h
    refine ⟨_, rfl, _, rfl, b, k, bs, as, rfl, hb, hk, fun H1 S1 => ?_⟩
    have hb1 := hb.same S1
    have hk1 := hk.same S1
    refine ⟨_, rfl, b, _, rfl, .inr (SqT.of hb1.1), fun L hL => ⟨sz, fun M hM => ?_⟩⟩
    have S0 := S1
    have nLM : L ≠ M := ne_of_none upd_same hM
    have hM0 := (same_new hL (.lst (bs.map V.int))).free hM
    refine ⟨_, rfl, k, rfl, ⟨_, SqT.of ((same_new hM _) _ _ ((same_new hL _) _ _ hk1.1))⟩, ?_⟩
    refine for_tup (K := K) (a := k) (xs := as.map fun x => .ref x.a) (fun i σ H2 => ∃ v4 v5 v6 : Option V, σ = [some (.ref b), some (.ref k), some (.ref L), some (.ref M), v4, v5, v6] ∧ Same H1 H2 ∧ H2 L = some (.lst ((play (as.take i) bs).2.map V.int)) ∧ H2 M = some (.lst ((play (as.take i) bs).1.map V.int)))
      ⟨none, none, none, rfl, (same_new hL _).trans (same_new hM _), by rw [upd_ne nLM, upd_same] <;> rfl, upd_same⟩ (fun i σ H2 _ h => by obtain ⟨_, _, _, _, h2, _⟩ := h; exact SqT.of (h2 _ _ hk1.1)) ?_ ?_
    · rintro i y σ H2 hi ⟨v4, v5, v6, rfl, S2, hL2, hM2⟩
      rw [List.getElem?_map] at hi
      obtain ⟨x, hx, rfl⟩ := Option.map_eq_some_iff.mp hi
      have hil : i < as.length := (List.getElem?_eq_some_iff.mp hx).1
      obtain ⟨l1, l2⟩ := play_len (as := as.take i) (bs := bs)
      rw [play_snoc hx]
      generalize play (as.take i) bs = st at hL2 hM2 l1 l2
      have hx1 := (hk1.2.2 x (List.mem_of_getElem? hx)).same S2
      have hbx : x.box < st.2.length := by rw [l2]; exact hx1.2.2.2.2
      have h40 := hk.2.1
      have l1' : st.1.length ≤ 40 := by rw [l1, List.length_take]; omega
      refine ⟨x.a, _, rfl, SqT.of hx1.1, rfl, _, _, rfl, _, _, rfl, _, _, rfl, rfl, ?_⟩
      refine ⟨_, rfl, .inl ⟨rfl, _, SqL.of hM2⟩, _, rfl, _, rfl, L, _, _, _, rfl, rfl, SqL.of hL2, at_of (j := x.box) rfl (map_getD hbx), M, _, _, rfl, rfl, hM2, small1000 (by rw [List.length_map]; omega), ?_⟩
      have hL3 : (upd H2 M (.lst (st.1.map V.int ++ [.int (st.2.getD x.box 0)]))) L = some (.lst (st.2.map V.int)) := by rw [upd_ne nLM]; exact hL2
      have hda : x.da ≠ M := ne_of hx1.2.1.1 hM2 (by intro z; cases z)
      refine ⟨_, rfl, _, rfl, _, rfl, L, _, _, _, rfl, rfl, SqL.of hL3, at_of (j := x.box) rfl (map_getD hbx), x.da, x.d, _, rfl, SqT.of (by rw [upd_ne hda]; exact hx1.2.1.1), ?_⟩
      refine ⟨_, rfl, _, rfl, L, _, _, _, rfl, rfl, hL3, ixn (by rw [List.length_map]; exact hbx), ?_⟩
      refine ⟨_, _, _, rfl, ?_, ?_, ?_⟩
      · exact fun a o ha => by rw [upd_ne (ne_of_none ha hL), upd_ne (ne_of_none ha hM0)]; exact S2 _ _ ha
      · rw [upd_same, ← List.map_set] <;> rfl
      · rw [upd_ne nLM.symm, upd_same, show (stepP st x).1 = st.1 ++ [st.2.getD x.box 0] from rfl, List.map_append] <;> rfl
    · rintro σ H2 ⟨v4, v5, v6, rfl, S2, hL2, hM2⟩
      rw [List.length_map, List.take_length] at hL2 hM2
      refine ⟨_, rfl, M, _, rfl, .inl ⟨SqL.of hM2, fun t1 ht1 => ?_⟩⟩
      have S3 := same_new ht1 (.tup ((play as bs).1.map V.int))
      refine ⟨_, rfl, L, _, rfl, .inl ⟨SqL.of (S3 _ _ hL2), fun t2 ht2 => ⟨sz, fun r hr => ?_⟩⟩⟩
      have S4 := same_new ht2 (.tup ((play as bs).2.map V.int))
      have S5 := same_new hr (.tup [.ref t1, .ref t2])
      exact q r t1 t2 _ (S0.trans (S2.trans (S3.trans (S4.trans S5)))) upd_same (S5 _ _ (S4 _ _ upd_same)) (S5 _ _ upd_same)
def spAll (K : PySem.W.Frag) : Sp := fun vs H Q _ => ∃ (b k : Addr) (bs : List Int) (as : List Ak), vs = [.ref b, .ref k] ∧ BoardAt H b bs ∧ AsksAt H k as bs.length ∧
  ∀ (T : Addr) (ps : List (Addr × Dd)) (H' : Hp), Same H H' → H' T = some (.tup (ps.map fun x => V.ref x.1)) → dsOf ps = (madeOf as bs.length).2 → RefsAt K H' ps → Q (.ref T) H'
theorem k_all_of (D : Df K mg "all_of" s_all_of ["board", "asks"]) (D_want_asks : Dn P w K mg base 6 "want_asks" ["board", "asks"] (spWantAsks K)) (D_one_behind : Dn P w K mg base 2 "one_behind" ["one", "other"] (spBehind K)) : Dn P w K mg base 7 "all_of" ["board", "asks"] (spAll K) := by
  refine D.ok fun f fd F => okG0 F sc_all_of (fun vs H Q E h => ?_) (fun cdv A outer s H vs Q E hr h => ⟨_, (pss_cons (ps_expr (pe_cD D_want_asks (hr.less (by decide)) rfl (pa_cons (pv 0) (pa_cons (pv 1) pa_nil))))
    (pss_cons (ps_set (i := 2) sc_all_of.nd rfl (Or.inl rfl) (pe_op op_rep (pe_lst (pa_cons (pe_glob (v := .ref B.LOOK_.choose) (by rfl) B.LOOK_.choose_spec.1 rfl) pa_nil)) (pe_callB (lenK (K := K)) (by rfl) B.len_ (by decide +kernel) (pa_cons (pv 0) pa_nil))))
    (pss_cons (ps_for PassesOwn.never rfl (kk (K := K) (F := fun K => iTup K _) (P := PI _ _ _) (pi_tup (pv 1))) (kk (K := K) (F := fun K => gTup K 3 _) (P := PG _ _) (pg_tup rfl (pgs_cons (pg_name (i := 3) sc_all_of.nd rfl (Or.inl rfl)) (pgs_cons (pg_name (i := 4) sc_all_of.nd rfl (Or.inl rfl)) (pgs_cons (pg_name (i := 5) sc_all_of.nd rfl (Or.inl rfl)) pgs_nil)))))
      (pss_one (ps_asg (pe_cD D_one_behind (hr.less (by decide)) rfl (pa_cons (pe_ix (kk (K := K) (F := rIxL) (P := IxR _) ix_list) (pv 2) (pv 4) (fun _ _ => rfl)) (pa_cons (pv 5) pa_nil))) (pg_sub (pv 2) (pv 4) set_list))))
    (pss_one (ps_ret (pe_callTy (tupOfK (K := K)) (by rfl) B.tuple_ (by decide +kernel) (pa_cons (pv 2) pa_nil))))))), ?_⟩)
  · obtain ⟨b, k, bs, as, rfl, _⟩ := h; rfl
  · obtain ⟨b, k, bs, as, rfl, hb, hk, q⟩ := h
    refine ⟨_, rfl, _, rfl, b, k, bs, as, rfl, hb, hk, fun H1 S1 => ?_⟩
    have hb1 := hb.same S1
    have hk1 := hk.same S1
    have hn := hb.2
    refine ⟨sz, fun l hl => ⟨_, rfl, b, _, rfl, .inr (SqT.of ((same_new hl _) _ _ hb1.1)), l, _, _, rfl, rfl, upd_same, by omega, by rw [List.length_map]; omega, small (by rw [List.length_map]; show 1 * _ ≤ 1000; omega), fun L hL => ?_⟩⟩
    rw [List.length_map, show ((bs.length : Nat) : Int).toNat = bs.length from Int.toNat_natCast _, refs_new] at *
    have S2 := same_new hl (.lst [.ref B.LOOK_.choose])
    have S3 := same_new hL (.lst (List.replicate bs.length (V.ref B.LOOK_.choose)))
    have S13 := S2.trans S3
    have hL1 : H1 L = none := S2.free hL
    have hL3 : (upd (upd H1 l (.lst [.ref B.LOOK_.choose])) L (.lst (List.replicate bs.length (V.ref B.LOOK_.choose)))) L = some (.lst ((List.replicate bs.length (B.LOOK_.choose, look)).map fun x => V.ref x.1)) := by rw [upd_same, List.map_replicate]
    generalize upd (upd H1 l (.lst [.ref B.LOOK_.choose])) L (.lst (List.replicate bs.length (V.ref B.LOOK_.choose))) = H3 at S13 hL3
    refine ⟨_, rfl, k, rfl, ⟨_, SqT.of (S13 _ _ hk1.1)⟩, ?_⟩
    refine for_tup (K := K) (a := k) (xs := as.map fun x => .ref x.a) (fun i σ H4 => ∃ (ps : List (Addr × Dd)) (v3 v4 v5 : Option V), σ = [some (.ref b), some (.ref k), some (.ref L), v3, v4, v5] ∧ Same H1 H4 ∧ H4 L = some (.lst (ps.map fun x => V.ref x.1)) ∧ dsOf ps = (madeOf (as.take i) bs.length).2 ∧ RefsAt K H4 ps)
      ⟨_, none, none, none, rfl, S13, hL3, by unfold dsOf; rw [List.map_replicate] <;> rfl, fun x hx => by rw [(List.mem_replicate.mp hx).2]; exact .inr B.LOOK_.choose_spec.2⟩ (fun i σ H4 _ h => by obtain ⟨_, _, _, _, _, h2, _⟩ := h; exact SqT.of (h2 _ _ hk1.1)) ?_ ?_
    · rintro i y σ H4 hi ⟨ps, v3, v4, v5, rfl, S4, hL4, hds, hps⟩
      rw [List.getElem?_map] at hi
      obtain ⟨x, hx, rfl⟩ := Option.map_eq_some_iff.mp hi
      have l2 := (made_len (as := as.take i) (n := bs.length)).2
      rw [made_snoc hx]
      generalize madeOf (as.take i) bs.length = st at hds l2
      have hx1 := (hk1.2.2 x (List.mem_of_getElem? hx)).same S4
      have hlp : ps.length = bs.length := by rw [← l2, ← hds]; unfold dsOf; rw [List.length_map]
      obtain ⟨y, hy, hym, hyd, hyr⟩ := refs_get (ps := ps) (i := x.box) (by rw [hlp]; exact hx1.2.2.2.2)
      refine ⟨x.a, _, rfl, SqT.of hx1.1, rfl, _, _, rfl, _, _, rfl, _, _, rfl, rfl, ?_⟩
      refine ⟨_, rfl, _, rfl, L, _, _, _, rfl, rfl, SqL.of hL4, at_of (j := x.box) rfl hyr, _, rfl, y.1, x.da, y.2, x.d, rfl, (hps y hym).sq, SqT.of hx1.2.1.1, fun c H5 S5 _ hc => ?_⟩
      have hL5 := S5 _ _ hL4
      refine ⟨_, rfl, _, rfl, L, _, _, _, rfl, rfl, hL5, ixn (by rw [List.length_map, hlp]; exact hx1.2.2.2.2), ?_⟩
      refine ⟨ps.set x.box (c, beh y.2 x.d), _, _, _, rfl, ?_, ?_, ?_, refs_set hL5 (hps.same S5) hc⟩
      · exact fun a o ha => by rw [upd_ne (ne_of_none ha hL1)]; exact S5 _ _ (S4 _ _ ha)
      · rw [upd_same, List.map_set] <;> rfl
      · unfold dsOf
        rw [List.map_set]
        show (dsOf ps).set x.box (beh y.2 x.d) = st.2.set x.box (beh (st.2.getD x.box look) x.d)
        rw [hyd, hds]
    · rintro σ H4 ⟨ps, v3, v4, v5, rfl, S4, hL4, hds, hps⟩
      rw [List.length_map, List.take_length] at hds
      refine ⟨_, rfl, L, _, rfl, .inl ⟨SqL.of hL4, fun T hT => ?_⟩⟩
      have S5 := same_new hT (.tup (ps.map fun x => V.ref x.1))
      exact q T ps _ (S1.trans (S4.trans S5)) upd_same hds (hps.same S5)
def spAhead (K : PySem.W.Frag) : Sp := fun vs H Q _ => ∃ (b k : Addr) (bs : List Int) (as : List Ak), vs = [.ref b, .ref k] ∧ BoardAt H b bs ∧ AsksAt H k as bs.length ∧
  ∀ (T : Addr) (ps : List (Addr × Dd)) (H' : Hp), Same H H' → H' T = some (.tup (ps.map fun x => V.ref x.1)) → dsOf ps = (madeOf as bs.length).1 → RefsAt K H' ps → Q (.ref T) H'
theorem k_ahead_of (D : Df K mg "ahead_of" s_ahead_of ["board", "asks"]) (D_want_asks : Dn P w K mg base 6 "want_asks" ["board", "asks"] (spWantAsks K)) (D_one_behind : Dn P w K mg base 2 "one_behind" ["one", "other"] (spBehind K)) : Dn P w K mg base 7 "ahead_of" ["board", "asks"] (spAhead K) := by
  refine D.ok fun f fd F => okG0 F sc_ahead_of (fun vs H Q E h => ?_) (fun cdv A outer s H vs Q E hr h => ⟨_, (pss_cons (ps_expr (pe_cD D_want_asks (hr.less (by decide)) rfl (pa_cons (pv 0) (pa_cons (pv 1) pa_nil))))
    (pss_cons (ps_set (i := 2) sc_ahead_of.nd rfl (Or.inl rfl) (pe_op op_rep (pe_lst (pa_cons (pe_glob (v := .ref B.LOOK_.choose) (by rfl) B.LOOK_.choose_spec.1 rfl) pa_nil)) (pe_callB (lenK (K := K)) (by rfl) B.len_ (by decide +kernel) (pa_cons (pv 0) pa_nil))))
    (pss_cons (ps_set (i := 3) sc_ahead_of.nd rfl (Or.inl rfl) (pe_lst pa_nil))
    (pss_cons (ps_for PassesOwn.never rfl (kk (K := K) (F := fun K => iTup K _) (P := PI _ _ _) (pi_tup (pv 1))) (kk (K := K) (F := fun K => gTup K 3 _) (P := PG _ _) (pg_tup rfl (pgs_cons (pg_name (i := 4) sc_ahead_of.nd rfl (Or.inl rfl)) (pgs_cons (pg_name (i := 5) sc_ahead_of.nd rfl (Or.inl rfl)) (pgs_cons (pg_name (i := 6) sc_ahead_of.nd rfl (Or.inl rfl)) pgs_nil)))))
      (pss_cons (ps_expr (kk (K := K) (F := fun K => tBM K "list" _ _ _) (P := PE _ _) (pe_bm PySem.F.plainAttrs_list PySem.F.slot_list_append PySem.F.type_list_append mt_append (pv 3) (pa_cons (pe_ix (kk (K := K) (F := rIxL) (P := IxR _) ix_list) (pv 2) (pv 5) (fun _ _ => rfl)) pa_nil))))
      (pss_one (ps_asg (pe_cD D_one_behind (hr.less (by decide)) rfl (pa_cons (pe_ix (kk (K := K) (F := rIxL) (P := IxR _) ix_list) (pv 2) (pv 5) (fun _ _ => rfl)) (pa_cons (pv 6) pa_nil))) (pg_sub (pv 2) (pv 5) set_list)))))
    (pss_one (ps_ret (pe_callTy (tupOfK (K := K)) (by rfl) B.tuple_ (by decide +kernel) (pa_cons (pv 3) pa_nil)))))))), ?_⟩)
  · obtain ⟨b, k, bs, as, rfl, _⟩ := h; rfl
  · obtain ⟨b, k, bs, as, rfl, hb, hk, q⟩ := h
    refine ⟨_, rfl, _, rfl, b, k, bs, as, rfl, hb, hk, fun H1 S1 => ?_⟩
    have hb1 := hb.same S1
    have hk1 := hk.same S1
    have hn := hb.2
    refine ⟨sz, fun l hl => ⟨_, rfl, b, _, rfl, .inr (SqT.of ((same_new hl _) _ _ hb1.1)), l, _, _, rfl, rfl, upd_same, by omega, by rw [List.length_map]; omega, small (by rw [List.length_map]; show 1 * _ ≤ 1000; omega), fun L hL => ?_⟩⟩
    rw [List.length_map, show ((bs.length : Nat) : Int).toNat = bs.length from Int.toNat_natCast _, refs_new] at *
    have S2 := same_new hl (.lst [.ref B.LOOK_.choose])
    have S3 := same_new hL (.lst (List.replicate bs.length (V.ref B.LOOK_.choose)))
    have S13 := S2.trans S3
    have hL1 : H1 L = none := S2.free hL
    have hL3 : (upd (upd H1 l (.lst [.ref B.LOOK_.choose])) L (.lst (List.replicate bs.length (V.ref B.LOOK_.choose)))) L = some (.lst ((List.replicate bs.length (B.LOOK_.choose, look)).map fun x => V.ref x.1)) := by rw [upd_same, List.map_replicate]
    generalize upd (upd H1 l (.lst [.ref B.LOOK_.choose])) L (.lst (List.replicate bs.length (V.ref B.LOOK_.choose))) = H3 at S13 hL3
    refine ⟨sz, fun M hM => ?_⟩
    have hM1 : H1 M = none := S13.free hM
    have nLM : L ≠ M := ne_of_none hL3 hM
    have S14 := S13.trans (same_new hM (.lst []))
    refine ⟨_, rfl, k, rfl, ⟨_, SqT.of (S14 _ _ hk1.1)⟩, ?_⟩
    refine for_tup (K := K) (a := k) (xs := as.map fun x => .ref x.a) (fun i σ H4 => ∃ (v3 v4 v5 : Option V), σ = [some (.ref b), some (.ref k), some (.ref L), some (.ref M), v3, v4, v5] ∧ Same H1 H4 ∧ MadeAt K H4 L M (madeOf (as.take i) bs.length))
      ⟨none, none, none, rfl, S14, MadeAt.new (by rw [upd_ne nLM]; exact hL3) upd_same fun x hx => by rw [(List.mem_replicate.mp hx).2]; exact .inr B.LOOK_.choose_spec.2⟩ (fun i σ H4 _ h => by obtain ⟨_, _, _, _, h2, _⟩ := h; exact SqT.of (h2 _ _ hk1.1)) ?_ ?_
    · rintro i y σ H4 hi ⟨v3, v4, v5, rfl, S4, hm⟩
      rw [List.getElem?_map] at hi
      obtain ⟨x, hx, rfl⟩ := Option.map_eq_some_iff.mp hi
      have hx1 := (hk1.2.2 x (List.mem_of_getElem? hx)).same S4
      have hil : i < as.length := (List.getElem?_eq_some_iff.mp hx).1
      have h40 := hk.2.1
      rw [made_snoc hx]
      obtain ⟨l1, l2⟩ := made_len (as := as.take i) (n := bs.length)
      have l1' : (madeOf (as.take i) bs.length).1.length ≤ 40 := by rw [l1, List.length_take]; omega
      generalize madeOf (as.take i) bs.length = st at hm l2 l1'
      obtain ⟨y, ey, hy, hyM, fin⟩ := hm.turn (x := x) (by rw [l2]; exact hx1.2.2.2.2)
      refine ⟨x.a, _, rfl, SqT.of hx1.1, rfl, _, _, rfl, _, _, rfl, _, _, rfl, rfl, ?_⟩
      obtain ⟨ps1, ps2, hM4, hL4, e1, e2, r1, r2⟩ := id hm
      refine ⟨_, rfl, .inl ⟨rfl, _, SqL.of hM4⟩, _, rfl, _, rfl, L, _, _, _, rfl, rfl, SqL.of hL4, at_of (j := x.box) rfl (ey _ hL4), M, _, _, rfl, rfl, hM4, small1000 (by rw [List.length_map, dsOf_len e1]; omega), ?_⟩
      have b1 : But M H4 (upd H4 M (.lst (ps1.map (fun x => V.ref x.1) ++ [V.ref y.1]))) := But.upd
      have hL5 := b1 _ _ nLM hL4
      refine ⟨_, rfl, _, rfl, L, _, _, _, rfl, rfl, SqL.of hL5, at_of (j := x.box) rfl (ey _ hL4), _, rfl, y.1, x.da, y.2, x.d, rfl, but_tup b1 hM4 hy, but_tup b1 hM4 (SqT.of hx1.2.1.1), fun c H5 S5 _ hc => ?_⟩
      have hL6 := S5 _ _ hL5
      refine ⟨_, rfl, _, rfl, L, _, _, _, rfl, rfl, hL6, ixn (by rw [List.length_map, dsOf_len e2, l2]; exact hx1.2.2.2.2), ?_⟩
      refine ⟨_, _, _, rfl, fun a o ha => ?_, ?_⟩
      · rw [upd_ne (ne_of_none ha hL1)]
        exact S5 _ _ (by rw [upd_ne (ne_of_none ha hM1)]; exact S4 _ _ ha)
      · exact fin ps1 ps2 _ c nLM e1 e2 r1 r2 hM4 S5 hL6 hc
    · rintro σ H4 ⟨v3, v4, v5, rfl, S4, hm⟩
      rw [List.length_map, List.take_length] at hm
      obtain ⟨ps1, ps2, hM4, hL4, e1, e2, r1, r2⟩ := hm
      refine ⟨_, rfl, M, _, rfl, .inl ⟨SqL.of hM4, fun T hT => ?_⟩⟩
      have S5 := same_new hT (.tup (ps1.map fun x => V.ref x.1))
      exact q T ps1 _ (S1.trans (S4.trans S5)) upd_same e1 (r1.same S5)
/-! ### the law's own -/
def spPot2 (K : PySem.W.Frag) : Sp := fun vs H Q _ => ∃ (a : Addr) (ns : List Int) (k : Nat), vs = [.ref a, .int k] ∧ SqL K H a (ns.map V.int) ∧ k ≤ 60 ∧ ∀ p H', H p = none → Same H H' → PotAt H' p → Q (.ref p) H'
theorem k__law_pot (D : Df K mg "_law_pot" s__law_pot ["_law_script", "_law_k"]) : Dn P w K mg base 1 "_law_pot" ["_law_script", "_law_k"] (spPot2 K) := by
  refine D.ok fun f fd F => okG0 F sc__law_pot (fun vs H Q E h => ?_) (fun cdv A outer s H vs Q E hr h => ⟨_, (pss_cons (ps_set (i := 2) sc__law_pot.nd rfl (Or.inl rfl) (pe_lst (pa_cons pe_int (pa_cons pe_int (pa_cons pe_int (pa_cons pe_int (pa_cons pe_int (pa_cons pe_int (pa_cons pe_int (pa_cons pe_int pa_nil))))))))))
    (pss_cons (ps_set (i := 3) sc__law_pot.nd rfl (Or.inl rfl) pe_int)
    (C8.pss_cut (ps_if (pt_cmpR op_lt (pv 1) (pe_callB (lenK (K := K)) (by rfl) B.len_ (by decide +kernel) (pa_cons (pv 0) pa_nil)) (nomark _))
      (pss_one (ps_set (i := 3) sc__law_pot.nd rfl (Or.inl rfl) (pe_ix (kk (K := K) (F := rIxL) (P := IxR _) ix_list) (pv 0) (pv 1) (fun _ _ => rfl))))
      pss_nil)
    (pss_one (ps_ret (pe_lst (pa_cons (pe_callB (call_max2 rfl) (by rfl) B.max_ (by decide +kernel) (pa_cons pe_int (pa_cons (pe_op op_sub (pv 3) (pe_op op_pow pe_int pe_int)) pa_nil))) (pa_cons (pe_op op_mod (pe_op op_pow (pe_op op_add (pe_op op_add (pe_op op_mod (pv 3) (pe_ix (kk (K := K) (F := rIxL) (P := IxR _) ix_list) (pv 2) (pe_op op_mod (pv 1) pe_int) (fun _ _ => rfl))) (pe_op op_mulX pe_int (pv 1))) pe_int) pe_int) (pe_ix (kk (K := K) (F := rIxL) (P := IxR _) ix_list) (pv 2) (pe_op op_mod (pv 1) pe_int) (fun _ _ => rfl))) pa_nil)))))))), ?_⟩)
  · obtain ⟨a, ns, k, rfl, _⟩ := h; rfl
  · obtain ⟨a, ns, k, rfl, hs, hk, q⟩ := h
    refine ⟨sz, fun l hl => ?_⟩
    have S1 := same_new hl (.lst [.int 2147483629, .int 2147483587, .int 2147483579, .int 2147483563, .int 2147483549, .int 2147483543, .int 2147483497, .int 2147483489])
    refine ⟨fun σ H1 => ∃ c : Int, σ = [some (.ref a), some (.int k), some (.ref l), some (.int c)] ∧ H1 = upd H l (.lst [.int 2147483629, .int 2147483587, .int 2147483579, .int 2147483563, .int 2147483549, .int 2147483543, .int 2147483497, .int 2147483489]), ?_, ?_⟩
    · refine ⟨_, rfl, _, rfl, a, _, rfl, .inl (S1.seq hs), _, _, rfl, rfl, _, rfl, ite2 (fun c => ?_) (fun c => ?_)⟩
      · have c' : (k : Int) < ((ns.map V.int).length : Nat) := of_decide_eq_true c
        have hk2 : k < ns.length := by rw [List.length_map] at c'; omega
        exact ⟨_, rfl, _, rfl, a, _, _, _, rfl, rfl, S1.seq hs, at_of (j := k) rfl (by rw [List.getElem?_map, List.getElem?_eq_getElem hk2] <;> rfl), _, rfl, rfl⟩
      · exact ⟨_, rfl, rfl⟩
    · rintro _ _ ⟨c, rfl, rfl⟩
      obtain ⟨z, hz, hz0, hz1⟩ := menu8 (k % 8) (by omega)
      have hm1 := Int.emod_nonneg c (by omega : z ≠ 0)
      have hm2 := Int.emod_lt_of_pos c hz0
      refine ⟨_, rfl, _, _, rfl, rfl, ⟨by decide, by decide, by decide⟩, _, _, rfl, rfl, _, _, rfl, ?_⟩
      refine ⟨_, rfl, _, rfl, _, rfl, _, _, rfl, rfl, pj, l, _, _, _, rfl, rfl, SqL.of upd_same, at_of (j := k % 8) (by omega) hz, _, _, rfl, rfl, hz0, ?_⟩
      refine ⟨_, rfl, _, _, rfl, rfl, mulx 13 6 (by decide) (by omega), _, _, rfl, rfl, _, _, rfl, rfl, _, _, rfl, rfl, ⟨by decide, by decide, by omega⟩, ?_⟩
      refine ⟨_, rfl, _, rfl, _, _, rfl, rfl, pj, l, _, _, _, rfl, rfl, SqL.of upd_same, at_of (j := k % 8) (by omega) hz, _, _, rfl, rfl, hz0, sz, fun p hp => ?_⟩
      refine q p _ (S1.free hp) (S1.trans (same_new hp _)) ⟨_, _, upd_same, ?_, Int.emod_nonneg _ (by omega), ?_⟩
      · split <;> omega
      · have := Int.emod_lt_of_pos ((c % z + 7919 * k + 5) ^ (Int.toNat 3)) hz0
        exact Int.lt_of_lt_of_le this (Int.le_trans hz1 (by decide))
def spTake : Sp := fun vs H Q _ => ∃ (p : Addr) (m : Int), vs = [.ref p, .int m] ∧ PotAt H p ∧ 1 ≤ m ∧ m < 2 ^ 200 ∧ ∀ (d : Int) H', 0 ≤ d → d < m → But p H H' → PotAt H' p → Q (.int d) H'
theorem k__law_draw (D : Df K mg "_law_draw" s__law_draw ["_law_pot_here", "_law_many"]) : Dn P w K mg base 1 "_law_draw" ["_law_pot_here", "_law_many"] spTake := by
  refine D.ok fun f fd F => okG0 F sc__law_draw (fun vs H Q E h => ?_) (fun cdv A outer s H vs Q E hr h => ⟨_, (pss_cons (ps_if (pt_cmpR op_gt (pe_ix (kk (K := K) (F := rIxL) (P := IxR _) ix_list) (pv 0) pe_int (fun _ _ => rfl)) pe_int (nomark _))
      (pss_cons (ps_set (i := 2) sc__law_draw.nd rfl (Or.inl rfl) (pe_op op_mod (pe_ix (kk (K := K) (F := rIxL) (P := IxR _) ix_list) (pv 0) pe_int (fun _ _ => rfl)) (pv 1)))
      (pss_cons (ps_asg (pe_op op_fdivW (pe_ix (kk (K := K) (F := rIxL) (P := IxR _) ix_list) (pv 0) pe_int (fun _ _ => rfl)) (pv 1)) (pg_sub (pv 0) pe_int set_list))
      (pss_one (ps_ret (pv 2)))))
      pss_nil)
    (pss_cons (ps_asg (pe_op op_mod (pe_op op_add (pe_op op_mulX (pe_ix (kk (K := K) (F := rIxL) (P := IxR _) ix_list) (pv 0) pe_int (fun _ _ => rfl)) pe_int) pe_int) pe_int) (pg_sub (pv 0) pe_int set_list))
    (pss_one (ps_ret (pe_op op_mod (pe_op op_fdivW (pe_op op_mod (pe_op op_mulX (pe_ix (kk (K := K) (F := rIxL) (P := IxR _) ix_list) (pv 0) pe_int (fun _ _ => rfl)) (pe_ix (kk (K := K) (F := rIxL) (P := IxR _) ix_list) (pv 0) pe_int (fun _ _ => rfl))) pe_int) pe_int) (pv 1)))))), ?_⟩)
  · obtain ⟨p, m, rfl, _⟩ := h; rfl
  · obtain ⟨p, m, rfl, ⟨a, b, hp, ha, hb, hb2⟩, hm, hm2, q⟩ := h
    refine ⟨_, rfl, p, _, _, _, rfl, rfl, SqL.of hp, at_of (j := 0) rfl rfl, _, _, rfl, rfl, _, rfl, ite2 (fun c => ?_) (fun c => ?_)⟩
    · refine ⟨_, rfl, p, _, _, _, rfl, rfl, SqL.of hp, at_of (j := 0) rfl rfl, _, rfl, _, _, rfl, rfl, by omega, ?_⟩
      refine ⟨_, rfl, p, _, _, _, rfl, rfl, SqL.of hp, at_of (j := 0) rfl rfl, _, rfl, _, _, rfl, rfl, ⟨by omega, Nat.lt_trans (log_lt (n := 200) (by decide) (by omega)) (by decide)⟩, _, rfl, p, _, _, _, rfl, rfl, hp, rfl, _, rfl, ?_⟩
      have h1 := Int.emod_nonneg a (by omega : m ≠ 0)
      have h2 := Int.emod_lt_of_pos a (by omega : 0 < m)
      have h3 := Int.ediv_nonneg ha (by omega : 0 ≤ m)
      exact q _ _ h1 h2 But.upd ⟨_, _, upd_same, h3, hb, hb2⟩
    · have hm1 := Int.emod_nonneg (b * 39373 + 7919) (by decide : (2147483629 : Int) ≠ 0)
      have hm3 := Int.emod_lt_of_pos (b * 39373 + 7919) (by decide : (0 : Int) < 2147483629)
      refine ⟨_, rfl, p, _, _, _, rfl, rfl, SqL.of hp, at_of (j := 1) rfl rfl, _, _, rfl, rfl, mulx 40 16 (by omega) (by decide), _, _, rfl, rfl, _, _, rfl, rfl, pj, ?_⟩
      refine ⟨_, rfl, p, _, _, _, rfl, rfl, hp, rfl, ?_⟩
      refine ⟨_, rfl, p, _, _, _, rfl, rfl, SqL.of upd_same, at_of (j := 1) rfl rfl, _, rfl, p, _, _, _, rfl, rfl, SqL.of upd_same, at_of (j := 1) rfl rfl, _, _, rfl, rfl, mulx 31 31 (by omega) (by omega), ?_⟩
      refine ⟨_, _, rfl, rfl, pj, _, _, rfl, rfl, ⟨by decide, by decide⟩, _, rfl, _, _, rfl, rfl, hm, ?_⟩
      exact q _ _ (Int.emod_nonneg _ (by omega)) (Int.emod_lt_of_pos _ (by omega)) But.upd ⟨_, _, upd_same, ha, hm1, by omega⟩
def spNumber : Sp := fun vs H Q _ => ∃ (p : Addr), vs = [.ref p] ∧ PotAt H p ∧ ∀ (n : Int) H', -(10 ^ 30) ≤ n → n ≤ 10 ^ 30 → But p H H' → PotAt H' p → Q (.int n) H'
theorem k__law_number (D : Df K mg "_law_number" s__law_number ["_law_pot_here"]) (D__law_draw : Dn P w K mg base 1 "_law_draw" ["_law_pot_here", "_law_many"] spTake) : Dn P w K mg base 2 "_law_number" ["_law_pot_here"] spNumber := by
  refine D.ok fun f fd F => okG0 F sc__law_number (fun vs H Q E h => ?_) (fun cdv A outer s H vs Q E hr h => ⟨_, (pss_cons (ps_set (i := 1) sc__law_number.nd rfl (Or.inl rfl) (pe_cD D__law_draw (hr.less (by decide)) rfl (pa_cons (pv 0) (pa_cons pe_int pa_nil))))
    (pss_cons (ps_if (pt_cmpR op_eq (pv 1) pe_int (nomark _))
      (pss_cons (ps_set (i := 2) sc__law_number.nd rfl (Or.inl rfl) pe_int)
      (pss_cons (ps_for PassesOwn.never rfl (pi_range1 (by rfl) B.range_ (pa_cons pe_int pa_nil)) (pg_name (i := 3) sc__law_number.nd rfl (Or.inl rfl))
        (pss_one (ps_set (i := 2) sc__law_number.nd rfl (Or.inl rfl) (pe_op op_add (pe_op op_mulX (pv 2) (pe_op op_pow pe_int pe_int)) (pe_cD D__law_draw (hr.less (by decide)) rfl (pa_cons (pv 0) (pa_cons (pe_op op_pow pe_int pe_int) pa_nil)))))))
      (pss_one (ps_ret (pe_op op_mulX (pe_op op_mod (pv 2) (pe_op op_sub (pe_op op_pow pe_int pe_int) pe_int)) (pe_op op_sub pe_int (pe_op op_mulX pe_int (pe_cD D__law_draw (hr.less (by decide)) rfl (pa_cons (pv 0) (pa_cons pe_int pa_nil))))))))))
      pss_nil)
    (pss_one (ps_ret (pe_op op_sub (pe_cD D__law_draw (hr.less (by decide)) rfl (pa_cons (pv 0) (pa_cons (pe_ix (kk (K := K) (F := rIxL) (P := IxR _) ix_list) (pe_lst (pa_cons pe_int (pa_cons pe_int (pa_cons pe_int pa_nil)))) (pe_op op_sub (pv 1) pe_int) (fun _ _ => rfl)) pa_nil))) (pe_ix (kk (K := K) (F := rIxL) (P := IxR _) ix_list) (pe_lst (pa_cons pe_int (pa_cons pe_int (pa_cons pe_int pa_nil)))) (pe_op op_sub (pv 1) pe_int) (fun _ _ => rfl))))))), ?_⟩)
  · obtain ⟨p, rfl, _⟩ := h; rfl
  · obtain ⟨p, rfl, hp, q⟩ := h
    refine ⟨_, rfl, p, 4, rfl, hp, by decide, by decide, fun d H1 d0 d6 b1 p1 => ?_⟩
    refine ⟨_, rfl, rfl, _, rfl, ite2 (fun c => ?_) (fun c => ?_)⟩
    · refine ⟨_, rfl, by decide, by decide, ?_⟩
      refine for_range (lo := 0) (n := 5) (fun i σ H2 => ∃ (f : Int) (v : Option V), σ = [some (.ref p), some (.int d), some (.int f), v] ∧ But p H H2 ∧ PotAt H2 p ∧ 0 ≤ f ∧ f < 10 ^ (6 * i)) ⟨0, none, rfl, b1, p1, by decide, by decide⟩ ?_ ?_
      · rintro i σ H2 hi ⟨f, v, rfl, b2, p2, f0, f1⟩
        have f2 : f < 10 ^ 24 := Int.lt_of_lt_of_le f1 ((by decide : ∀ i, i < 5 → (10 : Int) ^ (6 * i) ≤ 10 ^ 24) i hi)
        refine ⟨_, rfl, _, _, rfl, rfl, ⟨by decide, by decide, by decide⟩, _, _, rfl, rfl, mulx 90 20 (by omega) (by decide), ?_⟩
        refine ⟨_, rfl, _, _, rfl, rfl, ⟨by decide, by decide, by decide⟩, p, _, rfl, p2, by decide, by decide, fun e H3 e0 e1 b3 p3 => ⟨_, _, rfl, rfl, ?_⟩⟩
        refine ⟨_, _, rfl, b2.trans b3, p3, ?_, ?_⟩
        · show 0 ≤ f * 10 ^ 6 + e; omega
        · show f * 10 ^ 6 + e < 10 ^ (6 * (i + 1))
          have e1' : e < 10 ^ 6 := e1
          have : (10 : Int) ^ (6 * (i + 1)) = 10 ^ (6 * i) * 10 ^ 6 := by rw [Nat.mul_add, Int.pow_add]
          rw [this]
          omega
      · rintro σ H2 ⟨f, v, rfl, b2, p2, f0, f1⟩
        refine ⟨_, rfl, _, _, rfl, rfl, ⟨by decide, by decide, by decide⟩, _, _, rfl, rfl, _, _, rfl, rfl, pj, ?_⟩
        have g1 := Int.emod_nonneg f (by decide : (10 ^ Int.toNat 30 - 20 : Int) ≠ 0)
        have g2 := Int.emod_lt_of_pos f (by decide : (0 : Int) < 10 ^ Int.toNat 30 - 20)
        have g3 : (10 ^ Int.toNat 30 - 20 : Int) ≤ 10 ^ 30 := by decide
        refine ⟨_, rfl, p, 2, rfl, p2, by decide, by decide, fun c H3 c0 c2 b3 p3 => ⟨_, _, rfl, rfl, mulx 2 2 (by decide) (by omega), _, _, rfl, rfl, _, _, rfl, rfl, mulx 100 2 (by omega) (by omega), ?_⟩⟩
        have : c = 0 ∨ c = 1 := by omega
        refine q _ _ ?_ ?_ (b2.trans b3) p3
        · rcases this with rfl | rfl <;> omega
        · rcases this with rfl | rfl <;> omega
    · have dn : d ≠ 0 := fun z => by subst z; exact c rfl
      obtain ⟨j, rfl⟩ : ∃ j : Nat, d = (j : Int) + 1 := ⟨(d - 1).toNat, by omega⟩
      obtain ⟨z, hz, z1⟩ := at3 (x0 := 3) (x1 := 19) (x2 := 199) j (by omega)
      obtain ⟨y, hy, y1⟩ := at3 (x0 := 1) (x1 := 9) (x2 := 99) j (by omega)
      refine ⟨_, rfl, sz, fun l hl => ⟨_, rfl, _, _, rfl, rfl, l, _, _, _, rfl, rfl, SqL.of upd_same, at_of (j := j) (by omega) hz, ?_⟩⟩
      refine ⟨p, z, rfl, p1.same (same_new hl _), by omega, Int.lt_of_le_of_lt (b := 199) (by omega) (by decide), fun e H2 e0 e1 b2 p2 => ?_⟩
      refine ⟨sz, fun m hm => ⟨_, rfl, _, _, rfl, rfl, m, _, _, _, rfl, rfl, SqL.of upd_same, at_of (j := j) (by omega) hy, _, _, rfl, rfl, ?_⟩⟩
      exact q _ _ (by omega) (by omega) (b1.trans ((same_but (same_new hl _)).trans (b2.trans (same_but (same_new hm _))))) (p2.same (same_new hm _))
def spDeed : Sp := fun vs H Q _ => ∃ (p : Addr), vs = [.ref p] ∧ PotAt H p ∧ ∀ (a : Addr) (d : Dd) H', But p H H' → PotAt H' p → H a = none → H' a = some (.tup d.vs) → d.In (10 ^ 31) → d.Ok → Q (.ref a) H'
theorem k__law_deed (D : Df K mg "_law_deed" s__law_deed ["_law_pot_here"]) (D__law_draw : Dn P w K mg base 1 "_law_draw" ["_law_pot_here", "_law_many"] spTake) (D__law_number : Dn P w K mg base 2 "_law_number" ["_law_pot_here"] spNumber) : Dn P w K mg base 3 "_law_deed" ["_law_pot_here"] spDeed := by
  refine D.ok fun f fd F => okG0 F sc__law_deed (fun vs H Q E h => ?_) (fun cdv A outer s H vs Q E hr h => ⟨_, (pss_cons (ps_set (i := 1) sc__law_deed.nd rfl (Or.inl rfl) (pe_cD D__law_draw (hr.less (by decide)) rfl (pa_cons (pv 0) (pa_cons pe_int pa_nil))))
    (pss_cons (ps_set (i := 2) sc__law_deed.nd rfl (Or.inl rfl) (pe_cD D__law_number (hr.less (by decide)) rfl (pa_cons (pv 0) pa_nil)))
    (pss_cons (ps_set (i := 3) sc__law_deed.nd rfl (Or.inl rfl) (pe_cD D__law_number (hr.less (by decide)) rfl (pa_cons (pv 0) pa_nil)))
    (pss_cons (ps_set (i := 4) sc__law_deed.nd rfl (Or.inl rfl) (pe_cD D__law_number (hr.less (by decide)) rfl (pa_cons (pv 0) pa_nil)))
    (pss_cons (ps_if (pt_cmpR op_lt (pv 1) pe_int (nomark _))
      (pss_one (ps_ret (pe_tup (pa_cons (pe_op op_mulX (pv 2) (pv 1)) (pa_cons pe_non (pa_cons pe_non pa_nil))))))
      pss_nil)
    (pss_cons (ps_if (PW.pt (pw_or (pt_cmpR op_eq (pv 1) pe_int (nomark _)) (pw_or1 (pt_cmpR op_eq (pv 3) (pv 4) (nomark _)))))
      (pss_one (ps_ret (pe_tup (pa_cons pe_int (pa_cons (pv 3) (pa_cons (pv 3) pa_nil))))))
      pss_nil)
    (pss_cons (ps_if (pt_cmpR op_eq (pv 1) pe_int (nomark _))
      (pss_one (ps_ret (pe_tup (pa_cons (pv 2) (pa_cons (pv 3) (pa_cons pe_non pa_nil))))))
      pss_nil)
    (pss_cons (ps_if (pt_cmpR op_eq (pv 1) pe_int (nomark _))
      (pss_one (ps_ret (pe_tup (pa_cons (pv 2) (pa_cons pe_non (pa_cons (pv 3) pa_nil))))))
      pss_nil)
    (pss_one (ps_ret (pe_tup (pa_cons (pv 2) (pa_cons (pe_callB (call_min2 rfl) (by rfl) B.min_ (by decide +kernel) (pa_cons (pv 3) (pa_cons (pv 4) pa_nil))) (pa_cons (pe_callB (call_max2 rfl) (by rfl) B.max_ (by decide +kernel) (pa_cons (pv 3) (pa_cons (pv 4) pa_nil))) pa_nil)))))))))))))), ?_⟩)
  · obtain ⟨p, rfl, _⟩ := h; rfl
  · obtain ⟨p, rfl, hp, q⟩ := h
    refine ⟨_, rfl, p, 6, rfl, hp, by decide, by decide, fun road H1 d0 d7 b1 p1 => ?_⟩
    refine ⟨_, rfl, p, rfl, p1, fun n H2 n0 n1 b2 p2 => ⟨_, rfl, p, rfl, p2, fun one H3 o0 o1 b3 p3 => ⟨_, rfl, p, rfl, p3, fun other H4 r0 r1 b4 p4 => ?_⟩⟩⟩
    have b14 : But p H H4 := b1.trans (b2.trans (b3.trans b4))
    have fin : ∀ (d : Dd) (a : Addr), H4 a = none → d.In (10 ^ 31) → d.Ok → Q (.ref a) (upd H4 a (.tup d.vs)) := fun d a ha hi ho =>
      q a d _ (b14.trans (same_but (same_new ha _))) (p4.same (same_new ha _)) (b14.free (pot_ne p4 ha) ha) upd_same hi ho
    refine ⟨_, rfl, _, _, rfl, rfl, _, rfl, ite2 (fun c => ?_) (fun c => ?_)⟩
    · have c' : road < 2 := of_decide_eq_true c
      refine ⟨_, rfl, _, rfl, _, _, rfl, rfl, mulx 100 2 (by omega) (by omega), sz, fun a ha => fin ⟨_, none, none⟩ a ha (in_mk ?_ ?_ in_none in_none) (fun _ _ h => nomatch h)⟩
      · have : road = 0 ∨ road = 1 := by omega
        rcases this with rfl | rfl <;> omega
      · have : road = 0 ∨ road = 1 := by omega
        rcases this with rfl | rfl <;> omega
    have mm : (∃ y, -(10 ^ 31) ≤ y ∧ y ≤ 10 ^ 31 ∧ y = one) := ⟨one, by omega, by omega, rfl⟩
    by_cases c2 : road = 2
    · subst c2
      refine ⟨_, rfl, rfl, _, rfl, iteT (iteT ⟨_, rfl, _, rfl, sz, fun a ha => fin ⟨0, some one, some one⟩ a ha (in_mk (by decide) (by decide) (in_some (by omega) (by omega)) (in_some (by omega) (by omega))) fun l h e1 e2 => ?_⟩)⟩
      cases e1; cases e2
      exact .inr ⟨rfl, rfl⟩
    refine ⟨_, rfl, rfl, _, rfl, ifF (decide_eq_false fun z => c2 (V.int.inj z)) ⟨_, rfl, _, rfl, rfl, _, rfl, ite2 (fun c3 => ?_) (fun c3 => ?_)⟩⟩
    · refine ⟨_, rfl, _, rfl, sz, fun a ha => fin ⟨0, some one, some one⟩ a ha (in_mk (by decide) (by decide) (in_some (by omega) (by omega)) (in_some (by omega) (by omega))) fun l h e1 e2 => ?_⟩
      cases e1; cases e2
      exact .inr ⟨rfl, rfl⟩
    have c3' : one ≠ other := fun z => c3 (decide_eq_true (congrArg V.int z))
    refine ⟨_, rfl, rfl, _, rfl, ite2 (fun c4 => ?_) (fun c4 => ?_)⟩
    · exact ⟨_, rfl, _, rfl, sz, fun a ha => fin ⟨n, some one, none⟩ a ha (in_mk (by omega) (by omega) (in_some (by omega) (by omega)) in_none) (fun _ _ _ h => nomatch h)⟩
    refine ⟨_, rfl, rfl, _, rfl, ite2 (fun c5 => ?_) (fun c5 => ?_)⟩
    · exact ⟨_, rfl, _, rfl, sz, fun a ha => fin ⟨n, none, some one⟩ a ha (in_mk (by omega) (by omega) in_none (in_some (by omega) (by omega))) (fun _ _ h => nomatch h)⟩
    refine ⟨_, rfl, _, rfl, _, rfl, _, _, rfl, _, rfl, _, rfl, _, _, rfl, sz, fun a ha => fin ⟨n, some _, some _⟩ a ha (in_mk (by omega) (by omega) (in_some ?_ ?_) (in_some ?_ ?_)) ?_⟩
    · split <;> omega
    · split <;> omega
    · split <;> omega
    · split <;> omega
    · intro l h e1 e2
      cases e1; cases e2
      left
      split <;> split <;> omega
def spBoard : Sp := fun vs H Q _ => ∃ (p : Addr), vs = [.ref p] ∧ PotAt H p ∧ ∀ (b : Addr) (bs : List Int) H', But p H H' → PotAt H' p → H b = none → BoardAt H' b bs → Wi (10 ^ 30) bs → Q (.ref b) H'
theorem k__law_board (D : Df K mg "_law_board" s__law_board ["_law_pot_here"]) (D__law_draw : Dn P w K mg base 1 "_law_draw" ["_law_pot_here", "_law_many"] spTake) (D__law_number : Dn P w K mg base 2 "_law_number" ["_law_pot_here"] spNumber) : Dn P w K mg base 3 "_law_board" ["_law_pot_here"] spBoard := by
  refine D.ok fun f fd F => okG0 F sc__law_board (fun vs H Q E h => ?_) (fun cdv A outer s H vs Q E hr h => ⟨_, (pss_one (ps_ret (pe_callTy (tupOfK (K := K)) (by rfl) B.tuple_ (by decide +kernel) (pa_cons (pe_lc (own := [("_law_k", 1)]) (g := gName 1) (tt := tYes) rfl sc__law_board.nd (pi_range1 (by rfl) B.range_ (pa_cons (pe_op op_add pe_int (pe_cD D__law_draw (hr.less (by decide)) rfl (pa_cons (pv 0) (pa_cons pe_int pa_nil)))) pa_nil)) (blkOk_by (own := [("_law_k", 1)]) (N := ["_law_pot_here", "_law_k"]) (sc := defScope s__law_board) (by decide +kernel)) (fun _ _ _ _ _ => (pg_name (i := 1) sc__law_board.nd rfl (Or.inl rfl))) (fun _ _ _ _ _ => pts_nil) (fun _ _ _ _ _ => (pe_cD D__law_number (hr.less (by decide)) rfl (pa_cons (pv 0) pa_nil)))) pa_nil)))), ?_⟩)
  · obtain ⟨p, rfl, _⟩ := h; rfl
  · obtain ⟨p, rfl, hp, q⟩ := h
    refine ⟨_, rfl, p, 16, rfl, hp, by decide, by decide, fun m H1 m0 m1 b1 p1 => ⟨_, _, rfl, rfl, _, rfl, by omega, by omega, fun D hD => ?_⟩⟩
    have np := pot_ne p1 hD
    refine lc_range (lo := 0) (n := (1 + m).toNat) (fun i H2 => ∃ bs : List Int, But p H1 H2 ∧ PotAt H2 p ∧ H2 D = some (.lst (bs.map V.int)) ∧ bs.length = i ∧ Wi (10 ^ 30) bs) ⟨[], same_but (same_new hD _), p1.same (same_new hD _), upd_same, rfl, fun x hx => nomatch hx⟩ ?_ ?_
    · rintro i H2 hi ⟨bs, b2, p2, hD2, hl, hw⟩
      refine ⟨rfl, ?_⟩
      refine ⟨_, rfl, p, rfl, p2, fun x H3 x0 x1 b3 p3 => ?_⟩
      have hD3 := b3 _ _ np hD2
      refine ⟨_, hD3, small1000 (by rw [List.length_map]; omega), bs ++ [x], but_upd hD (b2.trans b3), p3.upd np.symm, by rw [upd_same, List.map_append] <;> rfl, by rw [List.length_append, hl] <;> rfl, ?_⟩
      exact hw.snoc x0 x1
    · rintro H2 ⟨bs, b2, p2, hD2, hl, hw⟩
      refine ⟨D, _, rfl, .inl ⟨SqL.of hD2, fun t ht => ?_⟩⟩
      have S := same_new ht (.tup (bs.map V.int))
      have B := b1.trans (b2.trans (same_but S))
      exact q t bs _ B (p2.same S) ((b1.trans b2).free (pot_ne p2 ht) ht) ⟨upd_same, by omega, by omega⟩ hw
def spAsks : Sp := fun vs H Q _ => ∃ (p b : Addr) (bs : List Int), vs = [.ref p, .ref b, .int 40] ∧ PotAt H p ∧ BoardAt H b bs ∧ ∀ (k : Addr) (as : List Ak) H', But p H H' → PotAt H' p → H k = none → AsksAt H' k as bs.length → Q (.ref k) H'
theorem k__law_asks (D : Df K mg "_law_asks" s__law_asks ["_law_pot_here", "_law_board_here", "_law_most"]) (D__law_draw : Dn P w K mg base 1 "_law_draw" ["_law_pot_here", "_law_many"] spTake) (D__law_deed : Dn P w K mg base 3 "_law_deed" ["_law_pot_here"] spDeed) : Dn P w K mg base 4 "_law_asks" ["_law_pot_here", "_law_board_here", "_law_most"] spAsks := by
  refine D.ok fun f fd F => okG0 F sc__law_asks (fun vs H Q E h => ?_) (fun cdv A outer s H vs Q E hr h => ⟨_, (pss_cons (ps_set (i := 3) sc__law_asks.nd rfl (Or.inl rfl) (pe_cD D__law_draw (hr.less (by decide)) rfl (pa_cons (pv 0) (pa_cons pe_int pa_nil))))
    (C8.pss_cut (ps_if (pt_cmpR op_eq (pv 3) pe_int (nomark _))
      (pss_one (ps_set (i := 3) sc__law_asks.nd rfl (Or.inl rfl) (pe_cD D__law_draw (hr.less (by decide)) rfl (pa_cons (pv 0) (pa_cons (pe_op op_add (pv 2) pe_int) pa_nil)))))
      pss_nil)
    (pss_cons (ps_set (i := 4) sc__law_asks.nd rfl (Or.inl rfl) (pe_op op_add pe_int (pe_cD D__law_draw (hr.less (by decide)) rfl (pa_cons (pv 0) (pa_cons (pe_callB (lenK (K := K)) (by rfl) B.len_ (by decide +kernel) (pa_cons (pv 1) pa_nil)) pa_nil)))))
    (pss_cons (ps_set (i := 5) sc__law_asks.nd rfl (Or.inl rfl) (pe_lst pa_nil))
    (pss_cons (ps_for PassesOwn.never rfl (pi_range1 (by rfl) B.range_ (pa_cons (pv 3) pa_nil)) (pg_name (i := 6) sc__law_asks.nd rfl (Or.inl rfl))
      (pss_one (ps_expr (kk (K := K) (F := fun K => tBM K "list" _ _ _) (P := PE _ _) (pe_bm PySem.F.plainAttrs_list PySem.F.slot_list_append PySem.F.type_list_append mt_append (pv 5) (pa_cons (pe_tup (pa_cons (pe_cD D__law_draw (hr.less (by decide)) rfl (pa_cons (pv 0) (pa_cons pe_int pa_nil))) (pa_cons (pe_cD D__law_draw (hr.less (by decide)) rfl (pa_cons (pv 0) (pa_cons (pv 4) pa_nil))) (pa_cons (pe_cD D__law_deed (hr.less (by decide)) rfl (pa_cons (pv 0) pa_nil)) pa_nil)))) pa_nil))))))
    (pss_one (ps_ret (pe_callTy (tupOfK (K := K)) (by rfl) B.tuple_ (by decide +kernel) (pa_cons (pv 5) pa_nil))))))))), ?_⟩)
  · obtain ⟨p, b, bs, rfl, _⟩ := h; rfl
  · obtain ⟨p, b, bs, rfl, hp, hb, q⟩ := h
    have nb : b ≠ p := fun z => by obtain ⟨_, _, h1, _⟩ := hp; have h2 := hb.1; rw [z, h1] at h2; cases h2
    refine ⟨_, rfl, p, 8, rfl, hp, by decide, by decide, fun m H1 m0 m1 b1 p1 => ?_⟩
    refine ⟨fun σ H2 => ∃ m : Int, σ = [some (.ref p), some (.ref b), some (.int 40), some (.int m), none, none, none] ∧ But p H H2 ∧ PotAt H2 p ∧ 0 ≤ m ∧ m ≤ 40, ?_, ?_⟩
    · refine ⟨_, rfl, rfl, _, rfl, ite2 (fun c => ?_) (fun c => ?_)⟩
      · exact ⟨_, rfl, _, rfl, _, _, rfl, rfl, p, _, rfl, p1, by decide, by decide, fun e H2 e0 e1 b2 p2 => ⟨e, rfl, b1.trans b2, p2, e0, by omega⟩⟩
      · exact ⟨m, rfl, b1, p1, m0, by omega⟩
    clear b1 p1 m0 m1
    rintro _ H2 ⟨m, rfl, b2, p2, m0, m1⟩
    have hb2 : BoardAt H2 b bs := ⟨b2 _ _ nb hb.1, hb.2⟩
    refine ⟨_, rfl, _, rfl, b, _, rfl, .inr (SqT.of hb2.1), p, _, rfl, p2, by rw [List.length_map]; have := hb.2; omega, Int.lt_of_le_of_lt (b := 16) (by rw [List.length_map]; have := hb.2; omega) (by decide), fun near H3 n0 n1 b3 p3 => ⟨_, _, rfl, rfl, ?_⟩⟩
    rw [List.length_map] at n1
    refine ⟨sz, fun L hL => ?_⟩
    have npL := pot_ne p3 hL
    have b13 := b2.trans b3
    refine ⟨_, rfl, _, rfl, by omega, by omega, ?_⟩
    refine for_range (lo := 0) (n := m.toNat) (fun i σ H4 => ∃ (as : List Ak) (v : Option V), σ = [some (.ref p), some (.ref b), some (.int 40), some (.int m), some (.int (1 + near)), some (.ref L), v] ∧ But p H3 H4 ∧ PotAt H4 p ∧ H4 L = some (.lst (as.map fun x => .ref x.a)) ∧ as.length = i ∧ ∀ x ∈ as, x.at_ H4 bs.length)
      ⟨[], none, rfl, same_but (same_new hL _), p3.same (same_new hL _), upd_same, rfl, fun x hx => nomatch hx⟩ ?_ ?_
    · rintro i σ H4 hi ⟨as, v, rfl, b4, p4, hL4, hl, hw⟩
      have hL3 : ∀ {H' : Hp}, But p H4 H' → H' L = some (.lst (as.map fun x => .ref x.a)) := fun b => b _ _ npL hL4
      refine ⟨_, rfl, .inl ⟨rfl, _, SqL.of hL4⟩, _, rfl, p, 16, rfl, p4, by decide, by decide, fun hand H5 h0 h1 b5 p5 => ?_⟩
      refine ⟨_, rfl, _, rfl, p, _, rfl, p5, by omega, Int.lt_of_le_of_lt (b := 16) (by have := hb2.2; omega) (by decide), fun box H6 x0 x1 b6 p6 => ?_⟩
      refine ⟨_, rfl, p, rfl, p6, fun da d H7 b7 p7 nda hda hdi hdo => ⟨sz, fun a ha => ?_⟩⟩
      have B7 := b5.trans (b6.trans b7)
      obtain ⟨bx, rfl⟩ : ∃ n : Nat, box = (n : Int) := ⟨box.toNat, by omega⟩
      have S8 := same_new ha (.tup [.int hand, .int bx, .ref da])
      have nLa : L ≠ a := ne_of_none (hL3 B7) ha
      have nLda : da ≠ L := fun z => by rw [z] at hda; rw [hL3 B7] at hda; cases hda
      obtain ⟨_, _, hp4, _⟩ := p4
      refine ⟨L, _, _, rfl, rfl, S8 _ _ (hL3 B7), small1000 (by rw [List.length_map]; omega), as ++ [⟨a, hand, bx, da, d⟩], _, rfl, but_upd hL (b4.trans (B7.trans (same_but S8))), (p7.same S8).upd npL.symm, by rw [upd_same, List.map_append] <;> rfl, by rw [List.length_append, hl] <;> rfl, fun x hx => ?_⟩
      rcases List.mem_append.mp hx with h3 | h3
      · exact (((hw x h3).but B7 hp4).same S8).but But.upd (S8 _ _ (hL3 B7))
      · have := List.mem_singleton.mp h3
        subst this
        exact ⟨by rw [upd_ne nLa.symm]; exact upd_same, ⟨by rw [upd_ne nLda]; exact S8 _ _ hda, In.le hdi (by decide), hdo⟩, h0, h1, show bx < _ by omega⟩
    · rintro σ H4 ⟨as, v, rfl, b4, p4, hL4, hl, hw⟩
      refine ⟨_, rfl, L, _, rfl, .inl ⟨SqL.of hL4, fun t ht => ?_⟩⟩
      have S := same_new ht (.tup (as.map fun x => .ref x.a))
      exact q t as _ (b13.trans (b4.trans (same_but S))) (p4.same S) ((b13.trans b4).free (pot_ne p4 ht) ht) ⟨upd_same, by omega, fun x hx => (hw x hx).same S⟩
/-! SPLIT -/
local macro_rules | `(tactic| walk_at "own") => `(tactic| fail)
local macro_rules | `(tactic| walk_at "sm") => `(tactic| first
  | with_reducible assumption
  | exact fun _ _ z => z
  | (apply Toy.same_bk; (with_reducible assumption); walk_at "sm")
  | solve_by_elim only [Toy.same_bk, *])
local macro_rules | `(tactic| walk_at "hp") => `(tactic| ((with_reducible refine (?_ : _ = some _)); first
  | with_reducible assumption
  | exact L2.upd_same
  | (apply Toy.hp_new; assumption; walk_at "hp")
  | (apply Toy.hp_at; (with_reducible assumption); walk_at "sm")))
local macro_rules | `(tactic| walk_at "sql") => `(tactic| first
  | with_reducible assumption
  | (apply L2.SqL.of; walk_at "hp")
  | (apply Toy.sql_at; (with_reducible assumption); walk_at "sm"))
local macro_rules | `(tactic| walk_at "sqt") => `(tactic| first
  | with_reducible assumption
  | (apply L2.SqT.of; walk_at "hp")
  | (apply Toy.sqt_at; (with_reducible assumption); walk_at "sm"))
local macro_rules | `(tactic| walk_at "ar") => `(tactic| first
  | with_reducible refine (?_ : (_ : Int) < _)
  | with_reducible refine (?_ : (_ : Int) ≤ _)
  | with_reducible refine (?_ : (_ : Nat) < _)
  | with_reducible refine (?_ : (_ : Nat) ≤ _)
  | with_reducible refine (?_ : (_ : Int) = _)
  | with_reducible refine (?_ : (_ : Nat) = _)
  | with_reducible refine (?_ : ¬ _)
  | with_reducible refine (?_ : _ ∧ _))
local macro_rules | `(tactic| walk_at "om") => `(tactic| (walk_at "ar"; omega))
local macro_rules | `(tactic| walk_at "num") => `(tactic| first
  | (walk_at "ar"; first
    | omega
    | (simp only [List.length_map, List.length_append, List.length_cons, List.length_nil, List.length_replicate, List.length_take, List.length_drop, List.length_range, List.length_set, List.length_reverse] <;> omega)
    | decide
    | (split <;> split <;> omega)
    | (split <;> omega))
  | decide)
local macro_rules | `(tactic| walk_at "side") => `(tactic| first
  | with_reducible rfl
  | walk_at "om"
  | with_reducible assumption
  | exact Toy.sz
  | (apply L2.SqL.of; walk_at "hp")
  | (apply L2.SqT.of; walk_at "hp")
  | (with_reducible apply Or.inl; walk_at "sql")
  | (with_reducible apply Or.inr; walk_at "sqt")
  | (with_reducible apply Exists.intro; walk_at "side")
  | walk_at "hp"
  | exact Eq.refl _
  | (apply Toy.lk1000; walk_at "num")
  | (apply Toy.lt1000; walk_at "num")
  | walk_at "num"
  | (apply Toy.lst_dp; apply L2.SqL.of; walk_at "hp")
  | (apply Toy.tupI_dp; apply L2.SqT.of; walk_at "hp")
  | exact Toy.ints_sh _
  | exact Toy.tupI_sh _
  | (apply L2.RgOk.of_le <;> walk_at "num")
  | (apply L2.atI_nat; assumption)
  | exact L2.Dp.lst (L2.SqL.of (by walk_at "hp")) L2.DpAll.nil
  | exact L2.Dp.tup (L2.SqT.of (by walk_at "hp")) L2.DpAll.nil
  | (apply Toy.ixn; walk_at "num")
  | exact Toy.tyL (by walk_at "hp")
  | walk_at "sql"
  | walk_at "sqt"
  | exact L2.ClsV.ty _
  | (apply L2.TyX.base; first | exact L2.TyOf.int _ | exact L2.TyOf.bl _ | exact L2.TyOf.non | exact L2.TyOf.str _ | (apply L2.TyOf.tup; walk_at "hp") | (apply L2.TyOf.lst; walk_at "hp"))
  | exact L2.kit_ty (r := true) (by decide +kernel)
  | exact L2.kit_ty (r := false) (by decide +kernel)
  | walk_at "own"
  | assumption
  | (walk_at "ar"; solve_by_elim only [Toy.hp_same, Toy.hp_new, L2.upd_same, *]))
local macro_rules | `(tactic| walk_at "go") => `(tactic| first
  | (apply And.intro; (focus (walk_at "side")); try walk_at "go")
  | (apply Exists.intro; rotate_left; (fail_if_success (with_reducible refine (?_ : Nat → _ → _))); (fail_if_success (with_reducible refine (?_ : L2.St → _ → _))); rotate_right; try walk_at "go")
  | (apply Or.inl; apply And.intro; (focus (walk_at "sql")); try walk_at "go")
  | (apply Or.inr; apply And.intro; (focus (walk_at "sqt")); try walk_at "go"))
/-! ENDM -/
/-- the stepper stops here -/
structure Kept (p : Prop) : Prop where
  ex : p
omit B in
theorem none_back {H H' : Hp} {a : Addr} (S : Same H H') (h : H' a = none) : H a = none := by
  cases e : H a with
  | none => rfl
  | some o =>
    rw [S _ _ e] at h
    cases h
omit B in
theorem But.fr {p E : Addr} {H H1 : Hp} {o : HO} (b : But p H H1) (hE : H E = none) : But p H (L2.upd H1 E o) := fun x u n h => by rw [upd_ne (ne_of_none h hE)]; exact b x u n h
omit B in
theorem but_fr {p E : Addr} {H H1 H2 : Hp} (b : But p H H1) (hE : H E = none) (c : But E H1 H2) : But p H H2 := fun x u n h => c _ _ (ne_of_none h hE) (b x u n h)
omit B in
theorem pot_keep {p : Addr} {H H' : Hp} (b : But p H H') (hp : PotAt H p) : ∀ t xs, H t = some (.tup xs) → H' t = some (.tup xs) := fun t xs e => by
  obtain ⟨_, _, h1, _⟩ := hp
  exact b _ _ (ne_of e h1 (by intro z; cases z)) e
omit B in
theorem PotAt.fr {H : Hp} {p E : Addr} {o : HO} (h : PotAt H p) (n : p ≠ E) : PotAt (L2.upd H E o) p := by
  obtain ⟨a, b, h1, h2⟩ := h
  exact ⟨a, b, by rw [upd_ne n]; exact h1, h2⟩
def spMixed : Sp := fun vs H Q _ => ∃ (p : Addr) (n : Nat), vs = [.ref p, .int n] ∧ PotAt H p ∧ n ≤ 16 ∧ ∀ (L : Addr) (m : List Nat) H', But p H H' → PotAt H' p → L ≠ p → H' L = some (.lst ((iN m).map V.int)) → Mx m n → Q (.ref L) H'
theorem k__law_mixed (D : Df K mg "_law_mixed" s__law_mixed ["_law_pot_here", "_law_many"]) (D__law_draw : Dn P w K mg base 1 "_law_draw" ["_law_pot_here", "_law_many"] spTake) : Dn P w K mg base 3 "_law_mixed" ["_law_pot_here", "_law_many"] spMixed := by
  refine D.ok fun f fd F => okG0 F sc__law_mixed (fun vs H Q E h => ?_) (fun cdv A outer s H vs Q E hr h => ⟨_, (pss_cons (ps_set (i := 2) sc__law_mixed.nd rfl (Or.inl rfl) (pe_lst pa_nil))
    (pss_cons (ps_for PassesOwn.never rfl (pi_range1 (by rfl) B.range_ (pa_cons (pv 1) pa_nil)) (pg_name (i := 3) sc__law_mixed.nd rfl (Or.inl rfl))
      (pss_one (ps_expr (kk (K := K) (F := fun K => tBM K "list" _ _ _) (P := PE _ _) (pe_bm PySem.F.plainAttrs_list PySem.F.slot_list_insert PySem.F.type_list_insert mt_insert (pv 2) (pa_cons (pe_cD D__law_draw (hr.less (by decide)) rfl (pa_cons (pv 0) (pa_cons (pe_op op_add (pv 3) pe_int) pa_nil))) (pa_cons (pv 3) pa_nil)))))))
    (pss_one (ps_ret (pv 2))))), ?_⟩)
  · obtain ⟨p, n, rfl, _⟩ := h; rfl
  · obtain ⟨p, n, rfl, hp, hn, q⟩ := h
    try walk_at "go"
    intro L hL
    generalize eH1 : upd _ L _ = H1
    have SH1 := newS eH1 hL
    have oL := newO eH1
    have p1 := hp.same SH1
    have nL : L ≠ p := pot_ne hp hL
    try walk_at "go"
    refine for_range (lo := 0) (n := n) (fun i σ H' => Kept (∃ (m : List Nat) (s3 : Option V), σ = [some (.ref p), some (.int n), some (.ref L), s3] ∧ But p H H' ∧ PotAt H' p ∧ H' L = some (.lst ((iN m).map V.int)) ∧ Mx m i)) ⟨⟨[], _, rfl, same_but SH1, p1, oL, ⟨List.Perm.refl _⟩⟩⟩ ?_ ?_
    · rintro i σ H2 hi ⟨m, s3, rfl, b2, p2, oL2, hm⟩
      rw [Int.zero_add]
      have lm : ((iN m).map V.int).length = i := by rw [iN_len]; exact hm.len
      try walk_at "go"
      intro e0 H3 e1 e2 b3 p3
      obtain ⟨e, rfl⟩ : ∃ e : Nat, e0 = (e : Int) := ⟨e0.toNat, by omega⟩
      have oL3 := b3 _ _ nL oL2
      try walk_at "go"
      refine ⟨⟨m.take e ++ [i] ++ m.drop e, _, rfl, but_upd hL (b2.trans b3), p3.upd (Ne.symm nL), ?_, hm.ins⟩⟩
      rw [upd_same, Int.toNat_natCast]
      unfold iN
      simp only [List.map_append, List.map_take, List.map_drop, List.map_cons, List.map_nil]
    · rintro σ H2 ⟨m, s3, rfl, b2, p2, oL2, hm⟩
      try walk_at "go"
      exact q L m H2 b2 p2 nL oL2 hm
def spParted (K : PySem.W.Frag) : Sp := fun vs H Q _ => ∃ (b k : Addr) (bs : List Int) (as : List Ak) (n : Nat), vs = [.ref b, .ref k, .int n] ∧ BoardAt H b bs ∧ AsksAt H k as bs.length ∧ n ≤ as.length ∧ ∀ H', Same H H' → Q (.bl true) H'
omit B in
theorem AsksAt.sub {H : Hp} {k k' : Addr} {as cs : List Ak} {nb : Nat} (h : AsksAt H k as nb) (e : H k' = some (.tup (cs.map fun x => .ref x.a))) (l : cs.length ≤ as.length) (s : ∀ x ∈ cs, x ∈ as) : AsksAt H k' cs nb := ⟨e, Nat.le_trans l h.2.1, fun x hx => h.2.2 x (s x hx)⟩
theorem k__law_parted (D : Df K mg "_law_parted" s__law_parted ["_law_board_here", "_law_asks_here", "_law_at"]) (D_played : Dn P w K mg base 7 "played" ["board", "asks"] (spPlay K)) (D_ahead_of : Dn P w K mg base 7 "ahead_of" ["board", "asks"] (spAhead K)) (D_all_of : Dn P w K mg base 7 "all_of" ["board", "asks"] (spAll K)) (D_then : Dn P w K mg base 5 "then" ["one", "other"] (spThen K)) : Dn P w K mg base 8 "_law_parted" ["_law_board_here", "_law_asks_here", "_law_at"] (spParted K) := by
  refine D.ok fun f fd F => okG0 F sc__law_parted (fun vs H Q E h => ?_) (fun cdv A outer s H vs Q E hr h => ⟨_, (pss_cons (ps_set (i := 3) sc__law_parted.nd rfl (Or.inr rfl) (pe_cD D_played (hr.less (by decide)) rfl (pa_cons (pv 0) (pa_cons (pv 1) pa_nil))))
    (pss_cons (ps_set (i := 4) sc__law_parted.nd rfl (Or.inl rfl) (pe_cD D_played (hr.less (by decide)) rfl (pa_cons (pv 0) (pa_cons (pe_slice sl_tupU (pv 1) po_none (po_some (pv 2))) pa_nil))))
    (pss_cons (ps_set (i := 5) sc__law_parted.nd rfl (Or.inl rfl) (pe_cD D_played (hr.less (by decide)) rfl (pa_cons (pe_ix (kk (K := K) (F := rIxT) (P := IxR _) ix_tup) (pv 4) pe_int (fun _ _ => rfl)) (pa_cons (pe_slice sl_tupU (pv 1) (po_some (pv 2)) po_none) pa_nil))))
    (pss_cons (ps_if (pt_cmpR (kk (K := K) (F := rNeD) (P := OpR _ _) (op_neD hr.units)) (pe_tup (pa_cons (pe_op op_catU (pe_ix (kk (K := K) (F := rIxT) (P := IxR _) ix_tup) (pv 4) pe_int (fun _ _ => rfl)) (pe_ix (kk (K := K) (F := rIxT) (P := IxR _) ix_tup) (pv 5) pe_int (fun _ _ => rfl))) (pa_cons (pe_ix (kk (K := K) (F := rIxT) (P := IxR _) ix_tup) (pv 5) pe_int (fun _ _ => rfl)) pa_nil))) (pv 3) (nomark _))
      (pss_one (ps_ret pe_bl))
      pss_nil)
    (pss_cons (ps_set (i := 6) sc__law_parted.nd rfl (Or.inl rfl) (pe_cD D_ahead_of (hr.less (by decide)) rfl (pa_cons (pv 0) (pa_cons (pv 1) pa_nil))))
    (pss_cons (ps_set (i := 7) sc__law_parted.nd rfl (Or.inr rfl) (pe_cD D_all_of (hr.less (by decide)) rfl (pa_cons (pv 0) (pa_cons (pe_slice sl_tupU (pv 1) po_none (po_some (pv 2))) pa_nil))))
    (pss_cons (ps_setLc (i := 8) (own := [("_law_ask", 12), ("_law_deed_here", 13)]) (tt := tYes) rfl sc__law_parted.nd rfl rfl (sw_true rfl rfl rfl (by decide +kernel)) (kk (K := K) (F := fun K => RZ.iZipA K _) (P := PI _ _ _) (RZ.pi_zipA (by rfl) B.zip_ (pa_cons (pe_slice sl_tupU (pv 1) (po_some (pv 2)) po_none) (pa_cons (pe_cD D_ahead_of (hr.less (by decide)) rfl (pa_cons (pe_ix (kk (K := K) (F := rIxT) (P := IxR _) ix_tup) (pv 4) pe_int (fun _ _ => rfl)) (pa_cons (pe_slice sl_tupU (pv 1) (po_some (pv 2)) po_none) pa_nil))) pa_nil)))) (blkOk_by (own := [("_law_ask", 12), ("_law_deed_here", 13)]) (N := ["_law_board_here", "_law_asks_here", "_law_at", "_law_whole", "_law_first", "_law_second", "_law_ahead", "_law_made", "_law_later", "_law_box", "_law_own", "_law_alone", "_law_ask", "_law_deed_here", "_law_k"]) (sc := defScope s__law_parted) (by decide +kernel)) (fun _ _ _ _ _ => (kk (K := K) (F := fun K => gTup K 2 _) (P := PG _ _) (pg_tup rfl (pgs_cons (pg_name (i := 12) sc__law_parted.nd rfl (Or.inl rfl)) (pgs_cons (pg_name (i := 13) sc__law_parted.nd rfl (Or.inl rfl)) pgs_nil))))) (fun _ _ _ _ _ => pts_nil) (fun _ _ _ _ _ => (pe_cD D_then (hr.less (by decide)) rfl (pa_cons (pe_ix (kk (K := K) (F := rIxT) (P := IxR _) ix_tup) (pv 7) (pe_ix (kk (K := K) (F := rIxT) (P := IxR _) ix_tup) (pv 12) pe_int (fun _ _ => rfl)) (fun _ _ => rfl)) (pa_cons (pv 13) pa_nil)))))
    (pss_cons (ps_if (pt_cmpR (kk (K := K) (F := rNeD) (P := OpR _ _) (op_neD hr.units)) (pv 6) (pe_op op_catU (pe_cD D_ahead_of (hr.less (by decide)) rfl (pa_cons (pv 0) (pa_cons (pe_slice sl_tupU (pv 1) po_none (po_some (pv 2))) pa_nil))) (pe_callTy (tupOfK (K := K)) (by rfl) B.tuple_ (by decide +kernel) (pa_cons (pv 8) pa_nil))) (nomark _))
      (pss_one (ps_ret pe_bl))
      pss_nil)
    (pss_cons (ps_for PassesOwn.never rfl (pi_range1 (by rfl) B.range_ (pa_cons (pe_callB (lenK (K := K)) (by rfl) B.len_ (by decide +kernel) (pa_cons (pv 0) pa_nil)) pa_nil)) (pg_name (i := 9) sc__law_parted.nd rfl (Or.inr rfl))
      (pss_cons (ps_setLc (i := 10) (own := [("_law_k", 14), ("_law_ask", 12)]) rfl sc__law_parted.nd rfl rfl (sw_true rfl rfl rfl (by decide +kernel)) (kk (K := K) (F := fun K => iEnumT K _) (P := PI _ _ _) (pi_enumT (by rfl) B.enumerate_ (pa_cons (pv 1) pa_nil))) (blkOk_by (own := [("_law_k", 14), ("_law_ask", 12)]) (N := ["_law_board_here", "_law_asks_here", "_law_at", "_law_whole", "_law_first", "_law_second", "_law_ahead", "_law_made", "_law_later", "_law_box", "_law_own", "_law_alone", "_law_ask", "_law_deed_here", "_law_k"]) (sc := defScope s__law_parted) (by decide +kernel)) (fun _ _ _ _ _ => (kk (K := K) (F := fun K => gTup K 2 _) (P := PG _ _) (pg_tup rfl (pgs_cons (pg_name (i := 14) sc__law_parted.nd rfl (Or.inl rfl)) (pgs_cons (pg_name (i := 12) sc__law_parted.nd rfl (Or.inl rfl)) pgs_nil))))) (fun _ _ _ _ _ => (pts_one (pt_cmpR op_eq (pe_ix (kk (K := K) (F := rIxT) (P := IxR _) ix_tup) (pv 12) pe_int (fun _ _ => rfl)) (pv 9) (nomark _)))) (fun _ _ _ _ _ => (pv 14)))
      (pss_cons (ps_set (i := 11) sc__law_parted.nd rfl (Or.inl rfl) (pe_cD D_played (hr.less (by decide)) rfl (pa_cons (pv 0) (pa_cons (pe_callTy (tupOfK (K := K)) (by rfl) B.tuple_ (by decide +kernel) (pa_cons (pe_lc (own := [("_law_k", 14)]) (g := gName 14) (tt := tYes) rfl sc__law_parted.nd (kk (K := K) (F := fun K => iList K _) (P := PI _ _ _) (pi_list (pv 10))) (blkOk_by (own := [("_law_k", 14)]) (N := ["_law_board_here", "_law_asks_here", "_law_at", "_law_whole", "_law_first", "_law_second", "_law_ahead", "_law_made", "_law_later", "_law_box", "_law_own", "_law_alone", "_law_ask", "_law_deed_here", "_law_k"]) (sc := defScope s__law_parted) (by decide +kernel)) (fun _ _ _ _ _ => (pg_name (i := 14) sc__law_parted.nd rfl (Or.inl rfl))) (fun _ _ _ _ _ => pts_nil) (fun _ _ _ _ _ => (pe_ix (kk (K := K) (F := rIxT) (P := IxR _) ix_tup) (pv 1) (pv 14) (fun _ _ => rfl)))) pa_nil)) pa_nil))))
      (pss_one (ps_if (PW.pt (pw_or (pt_cmpR (kk (K := K) (F := rNeD) (P := OpR _ _) (op_neD hr.units)) (pe_ix (kk (K := K) (F := rIxT) (P := IxR _) ix_tup) (pv 11) pe_int (fun _ _ => rfl)) (pe_callTy (tupOfK (K := K)) (by rfl) B.tuple_ (by decide +kernel) (pa_cons (pe_lc (own := [("_law_k", 14)]) (g := gName 14) (tt := tYes) rfl sc__law_parted.nd (kk (K := K) (F := fun K => iList K _) (P := PI _ _ _) (pi_list (pv 10))) (blkOk_by (own := [("_law_k", 14)]) (N := ["_law_board_here", "_law_asks_here", "_law_at", "_law_whole", "_law_first", "_law_second", "_law_ahead", "_law_made", "_law_later", "_law_box", "_law_own", "_law_alone", "_law_ask", "_law_deed_here", "_law_k"]) (sc := defScope s__law_parted) (by decide +kernel)) (fun _ _ _ _ _ => (pg_name (i := 14) sc__law_parted.nd rfl (Or.inl rfl))) (fun _ _ _ _ _ => pts_nil) (fun _ _ _ _ _ => (pe_ix (kk (K := K) (F := rIxT) (P := IxR _) ix_tup) (pe_ix (kk (K := K) (F := rIxT) (P := IxR _) ix_tup) (pv 3) pe_int (fun _ _ => rfl)) (pv 14) (fun _ _ => rfl)))) pa_nil)) (nomark _)) (pw_or1 (pt_cmpR op_ne (pe_ix (kk (K := K) (F := rIxT) (P := IxR _) ix_tup) (pe_ix (kk (K := K) (F := rIxT) (P := IxR _) ix_tup) (pv 11) pe_int (fun _ _ => rfl)) (pv 9) (fun _ _ => rfl)) (pe_ix (kk (K := K) (F := rIxT) (P := IxR _) ix_tup) (pe_ix (kk (K := K) (F := rIxT) (P := IxR _) ix_tup) (pv 3) pe_int (fun _ _ => rfl)) (pv 9) (fun _ _ => rfl)) (nomark _)))))
       (pss_one (ps_ret pe_bl))
       pss_nil)))))
    (pss_one (ps_ret pe_bl))))))))))), ?_⟩)
  · obtain ⟨b, k, bs, as, n, rfl, _⟩ := h; rfl
  · obtain ⟨b, k, bs, as, n, rfl, hb, hk, hn, q⟩ := h
    try walk_at "go"
    intro r t1 t2 H1 S1 g1 g2 g3
    have hb1 := hb.same S1
    have hk1 := hk.same S1
    have hkt1 := hk1.1
    try walk_at "go"
    intro k1 H2 S2 o2
    rw [cut_to, ← List.map_take] at o2
    have hk2 := hk1.same S2
    have hka2 : AsksAt H2 k1 (as.take n) bs.length := hk2.sub o2 (by rw [List.length_take]; omega) fun x hx => List.mem_of_mem_take hx
    have hb2 := hb1.same S2
    try walk_at "go"
    intro f f1 f2 H3 S3 u1 u2 u3
    have hk3 := hk2.same S3
    have hkt3 := hk3.1
    try walk_at "go"
    intro k2 H4 S4 o4
    rw [cut_from, ← List.map_drop] at o4
    obtain ⟨pl1, pl2⟩ := play_len (as := as.take n) (bs := bs)
    have hk4 := hk3.same S4
    have hka4 := (hka2.same S3).same S4
    have hbf4 : BoardAt H4 f2 (play (as.take n) bs).2 := ⟨S4 _ _ u3, by rw [pl2]; exact hb.2⟩
    have hkb4 : AsksAt H4 k2 (as.drop n) (play (as.take n) bs).2.length := by rw [pl2]; exact hk4.sub o4 (by rw [List.length_drop]; omega) fun x hx => List.mem_of_mem_drop hx
    try walk_at "go"
    intro g g1' g2' H5 S5 w1 w2 w3
    have ew : play as bs = ((play (as.take n) bs).1 ++ (play (as.drop n) (play (as.take n) bs).2).1, (play (as.drop n) (play (as.take n) bs).2).2) := by
      have := play_app (as := as.take n) (bs := bs) (as.drop n)
      rw [List.take_append_drop] at this
      exact this
    have h40 := hk.2.1
    have pl3 := (play_len (as := as.drop n) (bs := (play (as.take n) bs).2)).1
    have ln : ((play (as.take n) bs).1.map V.int).length + ((play (as.drop n) (play (as.take n) bs).2).1.map V.int).length ≤ sizeLine := by
      rw [List.length_map, List.length_map, pl1, pl3, List.length_take, List.length_drop]
      exact small (by omega)
    try walk_at "go"
    intro c H6 S6 o6
    have w1' := S6 _ _ w1
    try walk_at "go"
    intro T hT
    generalize eH7 : upd _ T _ = H7
    have SH7 := newS eH7 hT
    have oT := newO eH7
    have T7 : TwoAt H7 T (play as bs) := by
      rw [ew]
      exact ⟨c, g2', oT, by rw [SH7 _ _ o6, List.map_append], SH7 _ _ (S6 _ _ w3)⟩
    have S17 := S2.trans (S3.trans (S4.trans (S5.trans (S6.trans SH7))))
    have R7 : TwoAt H7 r (play as bs) := ⟨t1, t2, S17 _ _ g1, S17 _ _ g2, S17 _ _ g3⟩
    have d1 := T7.dp (K := K)
    have d2 := R7.dp (K := K)
    have sh := (Ly.two (play as bs)).sh
    try walk_at "go"
    refine ifF (by rw [(Ly.two (play as bs)).refl] <;> rfl) ?_
    clear d1 d2 T7
    have hb7 := hb1.same S17
    have hk7 := hk1.same S17
    have hkt7 := hk7.1
    have hbf7 : BoardAt H7 f2 (play (as.take n) bs).2 := hbf4.same (S5.trans (S6.trans SH7))
    have u7 : H7 f = some (.tup [.ref f1, .ref f2]) := SH7 _ _ (S6 _ _ (S5 _ _ (S4 _ _ u1)))
    clear g1 g2 g3 S2 S3 S4 S5 S6 u1 u2 u3 w1 w1' w2 w3 hk2 hka2 hb2 hk3 hkt3 hk4 hka4 hbf4 hkb4 o6 o2 o4 eH7 oT hT
    try walk_at "go"
    intro TA pa H8 S8 ta da ra
    have hb8 := hb7.same S8
    have hk8 := hk7.same S8
    have hkt8 := hk8.1
    try walk_at "go"
    intro k3 H9 S9 o9
    rw [cut_to, ← List.map_take] at o9
    have hk9 := hk8.same S9
    have hb9 := hb8.same S9
    have hka9 : AsksAt H9 k3 (as.take n) bs.length := hk9.sub o9 (by rw [List.length_take]; omega) fun x hx => List.mem_of_mem_take hx
    try walk_at "go"
    intro TM pm H10 S10 tm dm rm
    have hkt10 := (hk9.same S10).1
    have S7A := S8.trans (S9.trans S10)
    have u10 := S7A _ _ u7
    try walk_at "go"
    intro k4 H11 S11 o11
    have u11 := S11 _ _ u10
    have hk11 := (hk9.same S10).same S11
    have hkt11 := hk11.1
    try walk_at "go"
    intro k5 H12 S12 o12
    rw [cut_from, ← List.map_drop] at o11 o12
    have S712 := S7A.trans (S11.trans S12)
    have hbf12 := hbf7.same S712
    have hk12 := hk11.same S12
    have hkd12 : AsksAt H12 k5 (as.drop n) (play (as.take n) bs).2.length := by rw [pl2]; exact hk12.sub o12 (by rw [List.length_drop]; omega) fun x hx => List.mem_of_mem_drop hx
    try walk_at "go"
    intro TB pb H13 S13 tb db rb
    have o13 := S13 _ _ (S12 _ _ o11)
    try walk_at "go"
    intro D hD
    have hok : ∀ x ∈ as, x.box < bs.length ∧ x.d.Ok := fun x hx => ⟨(hk.2.2 x hx).2.2.2.2, (hk.2.2 x hx).2.1.2.2⟩
    have hokT : ∀ x ∈ as.take n, x.box < bs.length ∧ x.d.Ok := fun x hx => hok x (List.mem_of_mem_take hx)
    have hokD : ∀ x ∈ as.drop n, x.box < bs.length ∧ x.d.Ok := fun x hx => hok x (List.mem_of_mem_drop hx)
    rw [pl2] at db
    have lpb : pb.length = (as.drop n).length := by rw [dsOf_len db, made_len.1]
    have lpm : pm.length = bs.length := by rw [dsOf_len dm, made_len.2]
    refine lc_zipT (K := K) (a := k4) (b := TB) (xs := (as.drop n).map fun x => V.ref x.a) (ys := pb.map fun x => V.ref x.1) (by rw [List.length_map, List.length_map, lpb]) (fun i H' => Kept (∃ ps : List (Addr × Dd), Same H13 H' ∧ H' D = some (.lst (ps.map fun x => V.ref x.1)) ∧ dsOf ps = (parted (as.take n) (as.drop n) bs.length).take i ∧ RefsAt K H' ps)) ⟨⟨[], same_new hD _, upd_same, rfl, fun x hx => (nomatch hx)⟩⟩ (fun i H' _ h => by obtain ⟨_, S, _⟩ := h.ex; exact ⟨SqT.of (S _ _ o13), SqT.of (S _ _ tb)⟩) ?_ ?_
    · rintro i x y U H14 hx hy ⟨ps, S14, oD, dp, rp⟩ hU
      rw [List.getElem?_map] at hx hy
      obtain ⟨x, hx', rfl⟩ := Option.map_eq_some_iff.mp hx
      obtain ⟨y, hy', rfl⟩ := Option.map_eq_some_iff.mp hy
      replace hx := hx'
      replace hy := hy'
      have il : i < (as.drop n).length := (List.getElem?_eq_some_iff.mp hx).1
      have xm : x ∈ as := List.mem_of_mem_drop (List.mem_of_getElem? hx)
      have ym := List.mem_of_getElem? hy
      generalize eH15 : upd _ U (HO.tup [.ref x.a, .ref y.1]) = H15
      have SH15 := newS eH15 hU
      have oU := newO eH15
      have S15 := S14.trans SH15
      have S015 := S17.trans (S712.trans (S13.trans S15))
      have x15 := (hk1.2.2 x xm).same S015
      have xt15 := x15.1
      have xd15 : SqT K H15 x.da x.d.vs := SqT.of x15.2.1.1
      have oD15 := SH15 _ _ oD
      obtain ⟨z, hz, zm, zd, zr⟩ := refs_get (ps := pm) (i := x.box) (by rw [lpm]; exact x15.2.2.2.2)
      have tm15 : H15 TM = some (.tup (pm.map fun x => V.ref x.1)) := S15 _ _ (S13 _ _ (S12 _ _ (S11 _ _ tm)))
      have ix : atI (pm.map fun x => V.ref x.1) (x.box : Int) = some (.ref z.1) := atI_nat zr
      have rz : TupAt K H15 z.1 z.2.vs := (((rm z zm).same S11).same S12).same (S13.trans S15)
      have ry : TupAt K H15 y.1 y.2.vs := (rb y ym).same S15
      rw [dm] at zd
      have az : DeedArg K H15 z.1 z.2 := ⟨rz.ty, rz.sq, by rw [zd]; exact (made_oks hokT).2 _ x15.2.2.2.2⟩
      have ye : y.2 = (madeOf (as.drop n) bs.length).1.getD i look := by rw [← db]; unfold dsOf; rw [List.getD_eq_getElem?_getD, List.getElem?_map, hy] <;> rfl
      have ay : DeedArg K H15 y.1 y.2 := ⟨ry.ty, ry.sq, (made_oks hokD).1 _ (by rw [← db]; exact List.mem_map_of_mem ym)⟩
      try walk_at "go"
      intro c2 H16 S16 _ oc
      have oD16 := S16 _ _ oD15
      refine ⟨_, oD16, ?_, ⟨ps ++ [(c2, beh z.2 y.2)], but_same hD (S15.trans S16) But.upd, by rw [upd_same, List.map_append] <;> rfl, ?_, fun w hw => ?_⟩⟩
      · rw [List.length_map, dsOf_len dp, List.length_take, parted_len]
        rw [List.length_drop] at il ⊢
        exact small1000 (by omega)
      · rw [parted_succ il, ← dp, ← ye, show (List.map Ak.box (List.drop n as)).getD i 0 = x.box by rw [List.getD_eq_getElem?_getD, List.getElem?_map, hx] <;> rfl, ← zd]
        unfold dsOf
        rw [List.map_append] <;> rfl
      · rcases List.mem_append.mp hw with hw | hw
        · exact ((rp w hw).same (SH15.trans S16)).but But.upd oD16
        · cases List.mem_singleton.mp hw
          exact .inl (by rw [upd_ne (ne_of oc oD16 (by intro z; cases z))]; exact oc)
    rintro H14 ⟨ps, S14, oD, dp, rp⟩
    rw [List.length_map, ← parted_len (as := as.take n) (n := bs.length), List.take_length] at dp
    have S714 := S712.trans (S13.trans S14)
    have hb14 := hb7.same S714
    have hk14 := hk7.same S714
    have hkt14 := hk14.1
    have ra14 := ra.same (S9.trans (S10.trans (S11.trans (S12.trans (S13.trans S14)))))
    have ta14 := S14 _ _ (S13 _ _ (S12 _ _ (S11 _ _ (S10 _ _ (S9 _ _ ta)))))
    clear hkt10 u10 u11 hk9 hb9 hka9 hk8 hb8 hkt8 hk11 hkt11 hbf12 hk12 hkd12 o13 tb rb
    try walk_at "go"
    intro k6 H15 S15 o15
    rw [cut_to, ← List.map_take] at o15
    have hb15 := hb14.same S15
    have hk15 := hk14.same S15
    have hka15 : AsksAt H15 k6 (as.take n) bs.length := hk15.sub o15 (by rw [List.length_take]; omega) fun x hx => List.mem_of_mem_take hx
    try walk_at "go"
    intro TC pc H16 S16 tc dc rc
    have oD16 := S16 _ _ (S15 _ _ oD)
    try walk_at "go"
    intro TL hTL
    generalize eH17 : upd _ TL _ = H17
    have SH17 := newS eH17 hTL
    have oTL := newO eH17
    have tc17 := SH17 _ _ tc
    have ll : (pc.map fun x => V.ref x.1).length + (ps.map fun x => V.ref x.1).length ≤ sizeLine := by
      rw [List.length_map, List.length_map, dsOf_len dc, dsOf_len dp, made_len.1, parted_len, List.length_take, List.length_drop]
      exact small (by omega)
    try walk_at "go"
    intro TS H18 S18 o18
    have S1418 := S15.trans (S16.trans (SH17.trans S18))
    have dTA : Dp K H18 (.ref TA) (refsD (madeOf as bs.length).1) := refs_dp' da (SqT.of (S1418 _ _ ta14)) (ra14.same S1418)
    have eTS : dsOf (pc ++ ps) = (madeOf as bs.length).1 := by
      have e1 := made_part hokT (as.drop n) hokD
      rw [List.take_append_drop] at e1
      rw [e1, ← dc, ← dp]
      unfold dsOf
      rw [List.map_append]
    have dTS : Dp K H18 (.ref TS) (refsD (madeOf as bs.length).1) := refs_dp' eTS (SqT.of (by rw [o18, List.map_append])) fun x hx => (List.mem_append.mp hx).elim (fun h => (rc x h).same (SH17.trans S18)) (fun h => (rp x h).same S1418)
    have sh2 := (Ly.refs (madeOf as bs.length).1).sh
    try walk_at "go"
    refine ifF (by rw [(Ly.refs (madeOf as bs.length).1).refl] <;> rfl) ?_
    clear dTA dTS
    have S718 := S714.trans S1418
    have hb18 := hb7.same S718
    have hk18 := hk7.same S718
    obtain ⟨t1, t2, g1, g2, g3⟩ := R7.same S718
    have hbt18 := hb18.1
    clear sh sh2 ln ll lpb lpm da db dc dm dp eTS
    have lb : (bs.map V.int).length ≤ 16 := by rw [List.length_map]; exact hb.2.2
    refine ⟨_, rfl, b, _, rfl, .inr (SqT.of hbt18), ?_⟩
    refine ⟨_, rfl, by omega, by omega, ?_⟩
    rw [Int.toNat_natCast, List.length_map]
    refine for_range (lo := 0) (n := bs.length) (fun c σ H' => Kept (∃ s9 s10 s11 s12 s13 s14 : Option V, σ = [some (.ref b), some (.ref k), some (.int n), some (.ref r), some (.ref f), some (.ref g), some (.ref TA), some (.ref TM), some (.ref D), s9, s10, s11, s12, s13, s14] ∧ Same H18 H')) ⟨⟨_, _, _, _, _, _, rfl, Same.refl _⟩⟩ ?_ ?_
    · rintro c σ H19 hc ⟨s9, s10, s11, s12, s13, s14, rfl, S19⟩
      rw [Int.zero_add]
      have hb19 := hb18.same S19
      have hk19 := hk18.same S19
      have g19 := S19 _ _ g1
      have g19a := S19 _ _ g2
      have g19b := S19 _ _ g3
      have hkt19 := hk19.1
      have S019 := S1.trans (S17.trans (S718.trans S19))
      clear S7A S712 S714 S1418 S718 S14 S15 S16 SH17 S18 S13 S12 S11 S10 S9 S8 SH7 S17 S1
      try walk_at "go"
      intro D2 hD2
      have h40 := hk.2.1
      refine lc_enumT (K := K) (a := k) (xs := as.map fun x => V.ref x.a) (fun i H' => Kept (Same H19 H' ∧ H' D2 = some (.lst ((iN (ownI c as i)).map V.int)))) ⟨same_new hD2 _, upd_same⟩ (fun i H' _ h => SqT.of (h.ex.1 _ _ hkt19)) ?_ ?_
      · rintro i x T H20 hx ⟨S20, oD2⟩ hT
        rw [List.getElem?_map] at hx
        obtain ⟨x, hx', rfl⟩ := Option.map_eq_some_iff.mp hx
        have il : i < as.length := (List.getElem?_eq_some_iff.mp hx').1
        generalize eH21 : upd _ T (HO.tup [.int i, .ref x.a]) = H21
        have SH21 := newS eH21 hT
        have oT := newO eH21
        have x21 := (hk19.2.2 x (List.mem_of_getElem? hx')).same (S20.trans SH21)
        have xt21 := x21.1
        have oD21 := SH21 _ _ oD2
        have ow := ownI_succ (b := c) hx'
        have li : ((iN (ownI c as i)).map V.int).length ≤ 40 := by rw [iN_len]; have := ownI_len (b := c) (as := as) (i := i); omega
        try walk_at "go"
        refine ite2 (fun c1 => ?_) (fun c1 => ?_)
        · have c1 : x.box = c := by have := V.int.inj (of_decide_eq_true c1); omega
          rw [if_pos c1] at ow
          try walk_at "go"
          exact ⟨but_same hD2 (S20.trans SH21) But.upd, by rw [upd_same, ow, iN_snoc]⟩
        · have c1 : ¬ x.box = c := fun z => c1 (decide_eq_true (by rw [z]))
          rw [if_neg c1] at ow
          exact ⟨S20.trans SH21, by rw [ow]; exact oD21⟩
      rintro H20 ⟨S20, oD2⟩
      rw [List.length_map] at oD2
      have hkt20 := S20 _ _ hkt19
      have hb20 := hb19.same S20
      have lo := ownI_len (b := c) (as := as) (i := as.length)
      try walk_at "go"
      intro D3 hD3
      have hix : ∀ (j : Nat) (i : Nat), (ownI c as as.length)[i]? = some j → j < as.length := fun j i h => (ownI_lt (List.mem_of_getElem? h)).1
      have ltk : ∀ i, ((ownI c as as.length).take i).length ≤ 40 := fun i => by rw [List.length_take]; omega
      refine lc_list (K := K) (a := D2) (xs := (iN (ownI c as as.length)).map V.int) (fun i H' => Kept (Same H20 H' ∧ H' D3 = some (.lst (((ownI c as as.length).take i).map fun j => V.ref (as.getD j dfA).a)))) ⟨same_new hD3 _, upd_same⟩ (fun i H' _ h => SqL.of (h.ex.1 _ _ oD2)) ?_ ?_
      · rintro i y H21 hy ⟨S21, oD3⟩
        obtain ⟨j, rfl, hj, jm, il⟩ := iN_getD hy
        have jl := hix _ _ hj
        have aj := atR jl
        have hkt21 := S21 _ _ hkt20
        have tk := takeS (f := fun j => V.ref (as.getD j dfA).a) hj
        have li : (((ownI c as as.length).take i).map fun j => V.ref (as.getD j dfA).a).length ≤ 40 := by rw [List.length_map]; exact ltk i
        try walk_at "go"
        exact ⟨but_same hD3 S21 But.upd, by rw [upd_same, tk]⟩
      rintro H21 ⟨S21, oD3⟩
      rw [List.length_map, List.take_of_length_le (show (ownI c as as.length).length ≤ (iN (ownI c as as.length)).length by unfold iN; rw [List.length_map]; exact Nat.le_refl _)] at oD3
      try walk_at "go"
      intro T4 hT4
      generalize eH22 : upd _ T4 _ = H22
      have SH22 := newS eH22 hT4
      have oT4 := newO eH22
      have S022 := S20.trans (S21.trans SH22)
      have ea := own_asks (b := c) (as := as) dfA as.length (Nat.le_refl _)
      rw [List.take_length] at ea
      have hk22 : AsksAt H22 T4 (atBox c as) bs.length := (hk19.same S022).sub (by rw [oT4, ← ea, List.map_map] <;> rfl) (List.length_filter_le _ _) fun x hx => (List.mem_filter.mp hx).1
      have hb22 := hb19.same S022
      try walk_at "go"
      intro al a1 a2 H23 S23 w1 w2 w3
      have S1923 := S022.trans S23
      have g23 := S1923 _ _ g19
      have g23a := S1923 _ _ g19a
      have g23b := S1923 _ _ g19b
      have oD23 := S23 _ _ (SH22 _ _ (S21 _ _ oD2))
      clear hkt20 hb20 hk22 hb22 S20 S21 SH22 S23
      try walk_at "go"
      intro D4 hD4
      have lw1 := (play_len (as := as) (bs := bs)).1
      have lw2 := (play_len (as := as) (bs := bs)).2
      have la2 := (play_len (as := atBox c as) (bs := bs)).2
      refine lc_list (K := K) (a := D2) (xs := (iN (ownI c as as.length)).map V.int) (fun i H' => Kept (Same H23 H' ∧ H' D4 = some (.lst (((ownI c as as.length).take i).map fun j => V.int ((play as bs).1.getD j 0))))) ⟨same_new hD4 _, upd_same⟩ (fun i H' _ h => SqL.of (h.ex.1 _ _ oD23)) ?_ ?_
      · rintro i y H24 hy ⟨S24, oD4⟩
        obtain ⟨j, rfl, hj, jm, il⟩ := iN_getD hy
        have jl := hix _ _ hj
        have aj := atN (xs := (play as bs).1) (j := j) (by omega)
        have g24 := S24 _ _ g23
        have g24a := S24 _ _ g23a
        have tk := takeS (f := fun j => V.int ((play as bs).1.getD j 0)) hj
        have li : (((ownI c as as.length).take i).map fun j => V.int ((play as bs).1.getD j 0)).length ≤ 40 := by rw [List.length_map]; exact ltk i
        try walk_at "go"
        exact ⟨but_same hD4 S24 But.upd, by rw [upd_same, tk]⟩
      rintro H24 ⟨S24, oD4⟩
      rw [List.length_map, List.take_of_length_le (show (ownI c as as.length).length ≤ (iN (ownI c as as.length)).length by unfold iN; rw [List.length_map]; exact Nat.le_refl _)] at oD4
      have hbx : ∀ x ∈ as, x.box < bs.length := fun x hx => (hok x hx).1
      have eb := own_ans (b := c) (as := as) (bs := bs) hc hbx as.length (Nat.le_refl _)
      rw [List.take_length] at eb
      have ev := at_val (b := c) (as := as) (bs := bs) hc hbx
      have oD4' : H24 D4 = some (.lst ((play (atBox c as) bs).1.map V.int)) := by rw [oD4, ← eb, List.map_map] <;> rfl
      clear oD4
      have w24 := S24 _ _ w1
      have w24a := S24 _ _ w2
      try walk_at "go"
      intro T5 hT5
      generalize eH25 : upd _ T5 _ = H25
      have SH25 := newS eH25 hT5
      have oT5 := newO eH25
      have w25a := SH25 _ _ w24a
      have d1 : Dp K H25 (.ref a1) (.tuple ((play (atBox c as) bs).1.map PyData.int)) := tupI_dp (SqT.of w25a)
      have d2 : Dp K H25 (.ref T5) (.tuple ((play (atBox c as) bs).1.map PyData.int)) := tupI_dp (SqT.of oT5)
      have sh3 := (Ly.tupI (ns := (play (atBox c as) bs).1)).sh
      try walk_at "go"
      refine ifF (by rw [(Ly.tupI (ns := (play (atBox c as) bs).1)).refl] <;> rfl) ?_
      have S2325 := S24.trans SH25
      have w25 := S2325 _ _ w1
      have w25b := S2325 _ _ w3
      have g25 := S2325 _ _ g23
      have g25b := S2325 _ _ g23b
      have ax := atN (xs := (play (atBox c as) bs).2) (j := c) (by omega)
      have ay := atN (xs := (play as bs).2) (j := c) (by omega)
      rw [ev] at ax
      try walk_at "go"
      refine ifF (dec_ne rfl) ?_
      exact ⟨⟨_, _, _, _, _, _, rfl, S19.trans (S1923.trans S2325)⟩⟩
    · rintro σ H19 ⟨s9, s10, s11, s12, s13, s14, rfl, S19⟩
      try walk_at "go"
      exact q _ (S1.trans (S17.trans (S718.trans S19)))
/-! SPLIT -/
omit B in
theorem two_split {α : Type} {l : List α} {i : Nat} (h : i + 1 < l.length) : l = l.take i ++ [l[i], l[i + 1]] ++ l.drop (i + 2) := by
  have e1 : l.drop i = l[i] :: l.drop (i + 1) := List.drop_eq_getElem_cons (by omega)
  have e2 : l.drop (i + 1) = l[i + 1] :: l.drop (i + 2) := List.drop_eq_getElem_cons h
  conv => lhs; rw [← List.take_append_drop i l, e1, e2]
  simp
omit B in
theorem map_rg {α : Type} (l : List α) (d : α) (n : Nat) (h : n = l.length) : (List.range n).map (fun j => l.getD j d) = l := by
  subst h
  refine List.ext_getElem (by rw [List.length_map, List.length_range]) fun i h1 h2 => ?_
  rw [List.getElem_map, List.getElem_range, List.getD_eq_getElem?_getD, List.getElem?_eq_getElem h2] <;> rfl
/-- rows of asks with their answers -/
def RwAt (H : Hp) (R : Addr) (rs : List (Addr × Ak × Int)) : Prop := H R = some (.lst (rs.map fun t => V.ref t.1)) ∧ ∀ t ∈ rs, H t.1 = some (.tup [.ref t.2.1.a, .int t.2.2])
omit B in
theorem RwAt.same {H H' : Hp} {R : Addr} {rs : List (Addr × Ak × Int)} (e : Same H H') (h : RwAt H R rs) : RwAt H' R rs := ⟨e _ _ h.1, fun t ht => e _ _ (h.2 t ht)⟩
omit B in
theorem RwAt.but {p : Addr} {H H' : Hp} {R : Addr} {rs : List (Addr × Ak × Int)} {ys : List V} (e : But p H H') (hp : H p = some (.lst ys)) (n : R ≠ p) (h : RwAt H R rs) : RwAt H' R rs := ⟨e _ _ n h.1, fun t ht => e _ _ (ne_of (h.2 t ht) hp (by intro z; cases z)) (h.2 t ht)⟩
omit B in
theorem cut_toN {xs : List V} {i : Int} (n : Nat) (h : i = (n : Int)) : cutV xs none (some i) = xs.take n := by rw [h]; exact cut_to n
omit B in
theorem cut_fromN {xs : List V} {i : Int} (n : Nat) (h : i = (n : Int)) : cutV xs (some i) none = xs.drop n := by rw [h]; exact cut_from n
def spNeigh (K : PySem.W.Frag) : Sp := fun vs H Q _ => ∃ (p b k : Addr) (bs : List Int) (as : List Ak), vs = [.ref p, .ref b, .ref k] ∧ PotAt H p ∧ BoardAt H b bs ∧ AsksAt H k as bs.length ∧ ∀ H', But p H H' → PotAt H' p → Q (.bl true) H'
theorem k__law_neighbours (D : Df K mg "_law_neighbours" s__law_neighbours ["_law_pot_here", "_law_board_here", "_law_asks_here"]) (D_played : Dn P w K mg base 7 "played" ["board", "asks"] (spPlay K)) (D__law_draw : Dn P w K mg base 1 "_law_draw" ["_law_pot_here", "_law_many"] spTake) : Dn P w K mg base 8 "_law_neighbours" ["_law_pot_here", "_law_board_here", "_law_asks_here"] (spNeigh K) := by
  refine D.ok fun f fd F => okG0 F sc__law_neighbours (fun vs H Q E h => ?_) (fun cdv A outer s H vs Q E hr h => ⟨_, (pss_cons (ps_asg (pe_cD D_played (hr.less (by decide)) rfl (pa_cons (pv 1) (pa_cons (pv 2) pa_nil))) (kk (K := K) (F := fun K => gTup K 2 _) (P := PG _ _) (pg_tup rfl (pgs_cons (pg_name (i := 3) sc__law_neighbours.nd rfl (Or.inl rfl)) (pgs_cons (pg_name (i := 4) sc__law_neighbours.nd rfl (Or.inl rfl)) pgs_nil)))))
    (pss_cons (ps_set (i := 5) sc__law_neighbours.nd rfl (Or.inl rfl) (kk (K := K) (F := fun K => tListZipT K _) (P := PE _ _) (pe_listZipT rfl (by rfl) B.list_ (by rfl) B.zip_ (pa_cons (pv 2) (pa_cons (pv 3) pa_nil)))))
    (pss_cons (ps_for PassesOwn.never rfl (pi_range1 (by rfl) B.range_ (pa_cons (pe_callB (call_min2 rfl) (by rfl) B.min_ (by decide +kernel) (pa_cons pe_int (pa_cons (pe_callB (lenK (K := K)) (by rfl) B.len_ (by decide +kernel) (pa_cons (pv 2) pa_nil)) pa_nil))) pa_nil)) (pg_name (i := 6) sc__law_neighbours.nd rfl (Or.inl rfl))
      (pss_cons (ps_set (i := 7) sc__law_neighbours.nd rfl (Or.inl rfl) (pe_cD D__law_draw (hr.less (by decide)) rfl (pa_cons (pv 0) (pa_cons (pe_callB (lenK (K := K)) (by rfl) B.len_ (by decide +kernel) (pa_cons (pv 2) pa_nil)) pa_nil))))
      (pss_one (ps_if (PW.pt (pw_and (pt_cmpR op_gt (pv 7) pe_int (nomark _)) (pw_and1 (pt_cmpR op_ne (pe_ix (kk (K := K) (F := rIxT) (P := IxR _) ix_tup) (pe_ix (kk (K := K) (F := rIxT) (P := IxR _) ix_tup) (pe_ix (kk (K := K) (F := rIxL) (P := IxR _) ix_list) (pv 5) (pv 7) (fun _ _ => rfl)) pe_int (fun _ _ => rfl)) pe_int (fun _ _ => rfl)) (pe_ix (kk (K := K) (F := rIxT) (P := IxR _) ix_tup) (pe_ix (kk (K := K) (F := rIxT) (P := IxR _) ix_tup) (pe_ix (kk (K := K) (F := rIxL) (P := IxR _) ix_list) (pv 5) (pe_op op_sub (pv 7) pe_int) (fun _ _ => rfl)) pe_int (fun _ _ => rfl)) pe_int (fun _ _ => rfl)) (nomark _)))))
       (pss_one (ps_set (i := 5) sc__law_neighbours.nd rfl (Or.inl rfl) (pe_op op_cat (pe_op op_cat (pe_slice (kk (K := K) (F := rSlL) (P := L2.SlR _) sl_list) (pv 5) po_none (po_some (pe_op op_sub (pv 7) pe_int))) (pe_lst (pa_cons (pe_ix (kk (K := K) (F := rIxL) (P := IxR _) ix_list) (pv 5) (pv 7) (fun _ _ => rfl)) (pa_cons (pe_ix (kk (K := K) (F := rIxL) (P := IxR _) ix_list) (pv 5) (pe_op op_sub (pv 7) pe_int) (fun _ _ => rfl)) pa_nil)))) (pe_slice (kk (K := K) (F := rSlL) (P := L2.SlR _) sl_list) (pv 5) (po_some (pe_op op_add (pv 7) pe_int)) po_none))))
       pss_nil))))
    (pss_cons (ps_set (i := 8) sc__law_neighbours.nd rfl (Or.inl rfl) (pe_cD D_played (hr.less (by decide)) rfl (pa_cons (pv 1) (pa_cons (pe_callTy (tupOfK (K := K)) (by rfl) B.tuple_ (by decide +kernel) (pa_cons (pe_lc (own := [("_law_row", 9)]) (g := gName 9) (tt := tYes) rfl sc__law_neighbours.nd (kk (K := K) (F := fun K => iList K _) (P := PI _ _ _) (pi_list (pv 5))) (blkOk_by (own := [("_law_row", 9)]) (N := ["_law_pot_here", "_law_board_here", "_law_asks_here", "_law_answers", "_law_last", "_law_rows", "_law_turn", "_law_at", "_law_found", "_law_row"]) (sc := defScope s__law_neighbours) (by decide +kernel)) (fun _ _ _ _ _ => (pg_name (i := 9) sc__law_neighbours.nd rfl (Or.inl rfl))) (fun _ _ _ _ _ => pts_nil) (fun _ _ _ _ _ => (pe_ix (kk (K := K) (F := rIxT) (P := IxR _) ix_tup) (pv 9) pe_int (fun _ _ => rfl)))) pa_nil)) pa_nil))))
    (pss_one (ps_ret (pe_cmpR (kk (K := K) (F := rEqD) (P := OpR _ _) (op_eqD hr.units)) (pv 8) (pe_tup (pa_cons (pe_callTy (tupOfK (K := K)) (by rfl) B.tuple_ (by decide +kernel) (pa_cons (pe_lc (own := [("_law_row", 9)]) (g := gName 9) (tt := tYes) rfl sc__law_neighbours.nd (kk (K := K) (F := fun K => iList K _) (P := PI _ _ _) (pi_list (pv 5))) (blkOk_by (own := [("_law_row", 9)]) (N := ["_law_pot_here", "_law_board_here", "_law_asks_here", "_law_answers", "_law_last", "_law_rows", "_law_turn", "_law_at", "_law_found", "_law_row"]) (sc := defScope s__law_neighbours) (by decide +kernel)) (fun _ _ _ _ _ => (pg_name (i := 9) sc__law_neighbours.nd rfl (Or.inl rfl))) (fun _ _ _ _ _ => pts_nil) (fun _ _ _ _ _ => (pe_ix (kk (K := K) (F := rIxT) (P := IxR _) ix_tup) (pv 9) pe_int (fun _ _ => rfl)))) pa_nil)) (pa_cons (pv 4) pa_nil))) (nomark _)))))))), ?_⟩)
  · obtain ⟨p, b, k, bs, as, rfl, _⟩ := h; rfl
  · obtain ⟨p, b, k, bs, as, rfl, hp, hb, hk, q⟩ := h
    try walk_at "go"
    intro r t1 t2 H1 S1 g1 g2 g3
    have hk1 := hk.same S1
    have hkt1 := hk1.1
    have h40 := hk.2.1
    have lp := (play_len (as := as) (bs := bs)).1
    have ll : (as.map fun x => V.ref x.a).length = ((play as bs).1.map V.int).length := by rw [List.length_map, List.length_map, lp]
    have ll2 : (as.map fun x => V.ref x.a).length ≤ 1000 := by rw [List.length_map]; omega
    have hp1 := hp.same S1
    try walk_at "go"
    intro R ts H2 S2 nR oR lts pts
    have ll3 : (as.map fun x => V.ref x.a).length = as.length := List.length_map _
    have hkt2 := S2 _ _ hkt1
    obtain ⟨rs0, ers⟩ : ∃ rs : List (Addr × Ak × Int), rs = (List.range as.length).map fun j => (ts.getD j 0, as.getD j dfA, (play as bs).1.getD j 0) := ⟨_, rfl⟩
    rw [ll3] at lts
    have r1 : rs0.map (fun t => V.ref t.1) = ts.map V.ref := by
      rw [ers, List.map_map]
      show (List.range as.length).map (fun j => V.ref (ts.getD j 0)) = _
      rw [show (fun j => V.ref (ts.getD j 0)) = V.ref ∘ (fun j => ts.getD j 0) from rfl, ← List.map_map, map_rg ts 0 _ lts.symm]
    have r2 : rs0.map (fun t => t.2.1) = as := by
      rw [ers, List.map_map]
      exact map_rg as dfA _ rfl
    have r3 : rs0.map (fun t => t.2.2) = (play as bs).1 := by
      rw [ers, List.map_map]
      exact map_rg (play as bs).1 0 _ lp.symm
    have pr : RwAt H2 R rs0 := by
      refine ⟨by rw [oR, r1], fun t ht => ?_⟩
      rw [ers] at ht
      obtain ⟨j, hj, rfl⟩ := List.mem_map.mp ht
      have hj := List.mem_range.mp hj
      refine pts j (ts.getD j 0) _ _ (getD_at (by omega)) ?_ (map_getD (by omega))
      rw [List.getElem?_map, List.getElem?_eq_getElem hj]
      show _ = some (V.ref (as.getD j dfA).a)
      rw [List.getD_eq_getElem?_getD, List.getElem?_eq_getElem hj] <;> rfl
    have hp2 := hp1.same S2
    have nRp : R ≠ p := pot_ne hp1 nR
    have g12 := S2 _ _ g2
    have g13 := S2 _ _ g3
    have z0 : play (rs0.map fun t => t.2.1) bs = (rs0.map fun t => t.2.2, (play as bs).2) := by rw [r2, r3]
    have z1 : ∀ t ∈ rs0, t.2.1 ∈ as := fun t ht => by rw [← r2]; exact List.mem_map_of_mem (f := fun t => t.2.1) ht
    have z2 : rs0.length = as.length := by rw [ers, List.length_map, List.length_range]
    have fin : ∀ σ0 : List (Option V), Kept (∃ (R : Addr) (rs : List (Addr × Ak × Int)) (s6 s7 s8 s9 : Option V), [some (.ref p), some (.ref b), some (.ref k), some (.ref t1), some (.ref t2), some (.ref R), σ0.getD 0 none, σ0.getD 1 none, σ0.getD 2 none, σ0.getD 3 none] = [some (.ref p), some (.ref b), some (.ref k), some (.ref t1), some (.ref t2), some (.ref R), s6, s7, s8, s9] ∧ True) := fun σ0 => ⟨⟨R, rs0, _, _, _, _, rfl, trivial⟩⟩
    clear fin r1 r2 r3 ers
    have n20 : (if ((((as.map fun x => V.ref x.a).length : Nat) : Int)) < 20 then (((as.map fun x => V.ref x.a).length : Nat) : Int) else 20).toNat ≤ as.length := by rw [ll3]; split <;> omega
    try walk_at "go"
    refine for_range (lo := 0) (n := (if ((((as.map fun x => V.ref x.a).length : Nat) : Int)) < 20 then (((as.map fun x => V.ref x.a).length : Nat) : Int) else 20).toNat) (fun i σ H' => Kept (∃ (R : Addr) (rs : List (Addr × Ak × Int)) (s6 s7 s8 s9 : Option V), σ = [some (.ref p), some (.ref b), some (.ref k), some (.ref t1), some (.ref t2), some (.ref R), s6, s7, s8, s9] ∧ But p H2 H' ∧ PotAt H' p ∧ R ≠ p ∧ RwAt H' R rs ∧ rs.length = as.length ∧ (∀ t ∈ rs, t.2.1 ∈ as) ∧ play (rs.map fun t => t.2.1) bs = (rs.map fun t => t.2.2, (play as bs).2))) ⟨⟨R, rs0, _, _, _, _, rfl, But.refl, hp2, nRp, pr, z2, z1, z0⟩⟩ ?_ ?_
    · rintro i σ H3 hi ⟨R, rs, s6, s7, s8, s9, rfl, b3, p3, nR3, oR3, lr, mr, pl⟩
      have hil : i < as.length := by omega
      have hkt3 := pot_keep b3 hp2 _ _ hkt2
      try walk_at "go"
      intro e0 H4 e1 e2 b4 p4
      obtain ⟨e, rfl⟩ : ∃ e : Nat, e0 = (e : Int) := ⟨e0.toNat, by omega⟩
      rw [ll3] at e2
      have oR4 := oR3.but b4 p3.choose_spec.choose_spec.1 nR3
      have oR4t := oR4.1
      have b24 := b3.trans b4
      have atb : ∀ x ∈ as, x.at_ H4 bs.length := fun x hx => ((hk1.2.2 x hx).same S2).but b24 hp2.choose_spec.choose_spec.1
      try walk_at "go"
      refine ite2 (fun c1 => ?_) (fun c1 => ?_)
      rotate_left
      · exact ⟨⟨R, rs, _, _, _, _, rfl, b24, p4, nR3, oR4, lr, mr, pl⟩⟩
      have c1 : (0 : Int) < e := of_decide_eq_true c1
      obtain ⟨j, rfl⟩ : ∃ j : Nat, e = j + 1 := ⟨e - 1, by omega⟩
      have jl : j + 1 < rs.length := by omega
      have jl0 : j < rs.length := by omega
      have ej : ((j + 1 : Nat) : Int) - 1 = (j : Int) := by omega
      have ix1 : atI (rs.map fun t => V.ref t.1) ((j + 1 : Nat) : Int) = some (.ref rs[j + 1].1) := atI_nat (by rw [List.getElem?_map, List.getElem?_eq_getElem jl] <;> rfl)
      have ix0 : atI (rs.map fun t => V.ref t.1) (((j + 1 : Nat) : Int) - 1) = some (.ref rs[j].1) := by rw [ej]; exact atI_nat (by rw [List.getElem?_map, List.getElem?_eq_getElem jl0] <;> rfl)
      have row1 := oR4.2 _ (List.getElem_mem jl)
      have row0 := oR4.2 _ (List.getElem_mem jl0)
      have ak1 := (atb _ (mr _ (List.getElem_mem jl))).1
      have ak0 := (atb _ (mr _ (List.getElem_mem jl0))).1
      try walk_at "go"
      refine ite2 (fun c2 => ?_) (fun c2 => ?_)
      rotate_left
      · exact ⟨⟨R, rs, _, _, _, _, rfl, b24, p4, nR3, oR4, lr, mr, pl⟩⟩
      have c2 : rs[j].2.1.box ≠ rs[j + 1].2.1.box := fun z => by rw [z, dec_ne rfl] at c2; cases c2
      try walk_at "go"
      intro A hA
      generalize eH5 : upd _ A _ = H5
      have SH5 := newS eH5 hA
      have oA := newO eH5
      rw [cut_toN j ej, ← List.map_take] at oA
      have oR5 := SH5 _ _ oR4t
      try walk_at "go"
      intro C hC
      generalize eH6 : upd _ C _ = H6
      have SH6 := newS eH6 hC
      have oC := newO eH6
      have oA6 := SH6 _ _ oA
      have oR6 := SH6 _ _ oR5
      have lA : ((rs.take j).map fun t => V.ref t.1).length + [V.ref rs[j + 1].1, V.ref rs[j].1].length ≤ sizeLine := by
        rw [List.length_map, List.length_take]; exact small (by show min j rs.length + 2 ≤ 1000; omega)
      try walk_at "go"
      intro D hD
      generalize eH7 : upd _ D _ = H7
      have SH7 := newS eH7 hD
      have oD := newO eH7
      have oR7 := SH7 _ _ oR6
      try walk_at "go"
      intro E2 hE2
      generalize eH8 : upd _ E2 _ = H8
      have SH8 := newS eH8 hE2
      have oE2 := newO eH8
      rw [cut_fromN (j + 2) (by omega), ← List.map_drop] at oE2
      have oD8 := SH8 _ _ oD
      have lB : (((rs.take j).map fun t => V.ref t.1) ++ [V.ref rs[j + 1].1, V.ref rs[j].1]).length + ((rs.drop (j + 2)).map fun t => V.ref t.1).length ≤ sizeLine := by
        rw [List.length_append, List.length_map, List.length_map, List.length_take, List.length_drop]; exact small (by show min j rs.length + 2 + (rs.length - (j + 2)) ≤ 1000; omega)
      try walk_at "go"
      intro F hF
      generalize eH9 : upd _ F _ = H9
      have SH9 := newS eH9 hF
      have oF := newO eH9
      have S49 := SH5.trans (SH6.trans (SH7.trans (SH8.trans SH9)))
      have p9 := p4.same S49
      have hs := two_split jl
      have pl' := pl
      rw [hs, List.map_append, List.map_append, List.map_append, List.map_append] at pl'
      have sw := play_swap (xs := (rs.take j).map fun t => t.2.1) (ys := (rs.drop (j + 2)).map fun t => t.2.1) (a := rs[j].2.1) (c := rs[j + 1].2.1) (us := (rs.take j).map fun t => t.2.2) (ws := (rs.drop (j + 2)).map fun t => t.2.2) (u := rs[j].2.2) (v := rs[j + 1].2.2) c2 (atb _ (mr _ (List.getElem_mem jl0))).2.2.2.2 (atb _ (mr _ (List.getElem_mem jl))).2.2.2.2 pl' (by rw [List.length_map, List.length_map])
      have memb : ∀ t ∈ rs.take j ++ [rs[j + 1], rs[j]] ++ rs.drop (j + 2), t ∈ rs := fun t ht => by
        rcases List.mem_append.mp ht with ht | ht
        · rcases List.mem_append.mp ht with ht | ht
          · exact List.mem_of_mem_take ht
          · simp only [List.mem_cons, List.not_mem_nil, or_false] at ht
            rcases ht with rfl | rfl
            · exact List.getElem_mem jl
            · exact List.getElem_mem jl0
        · exact List.mem_of_mem_drop ht
      refine ⟨⟨F, rs.take j ++ [rs[j + 1], rs[j]] ++ rs.drop (j + 2), _, _, _, _, rfl, b24.trans (same_but S49), p9, pot_ne (p4.same (SH5.trans (SH6.trans (SH7.trans SH8)))) hF, ⟨by rw [oF, List.map_append, List.map_append] <;> rfl, fun t ht => S49 _ _ (oR4.2 t (memb t ht))⟩, ?_, fun t ht => mr t (memb t ht), by rw [List.map_append, List.map_append, List.map_append, List.map_append]; exact sw⟩⟩
      rw [List.length_append, List.length_append, List.length_take, List.length_drop]
      show min j rs.length + 2 + _ = _
      omega
    · rintro σ H3 ⟨R, rs, s6, s7, s8, s9, rfl, b3, p3, nR3, oR3, lr, mr, pl⟩
      have oR3t := oR3.1
      have bb3 : BoardAt H3 b bs := ⟨pot_keep b3 hp2 _ _ ((hb.same S1).same S2).1, hb.2⟩
      have atb : ∀ x ∈ as, x.at_ H3 bs.length := fun x hx => ((hk1.2.2 x hx).same S2).but b3 hp2.choose_spec.choose_spec.1
      have g32 := pot_keep b3 hp2 _ _ g12
      have g33 := pot_keep b3 hp2 _ _ g13
      try walk_at "go"
      intro D hD
      refine lc_list (K := K) (a := R) (xs := rs.map fun t => V.ref t.1) (fun i H' => Kept (Same H3 H' ∧ H' D = some (.lst ((rs.take i).map fun t => V.ref t.2.1.a)))) ⟨same_new hD _, upd_same⟩ (fun i H' _ h => SqL.of (h.ex.1 _ _ oR3t)) ?_ ?_
      · rintro i y H4 hy ⟨S4, oD⟩
        rw [List.getElem?_map] at hy
        obtain ⟨t, ht, rfl⟩ := Option.map_eq_some_iff.mp hy
        have il := (List.getElem?_eq_some_iff.mp ht).1
        have row := S4 _ _ (oR3.2 _ (List.mem_of_getElem? ht))
        have li : ((rs.take i).map fun t => V.ref t.2.1.a).length ≤ 40 := by rw [List.length_map, List.length_take]; omega
        try walk_at "go"
        exact ⟨but_same hD S4 But.upd, by rw [upd_same, takeS ht]⟩
      rintro H4 ⟨S4, oD⟩
      rw [List.length_map, List.take_length] at oD
      try walk_at "go"
      intro T hT
      generalize eH5 : upd _ T _ = H5
      have SH5 := newS eH5 hT
      have oT := newO eH5
      have S35 := S4.trans SH5
      have hk5 : AsksAt H5 T (rs.map fun t => t.2.1) bs.length := ⟨by rw [oT, List.map_map] <;> rfl, by rw [List.length_map]; omega, fun x hx => by
        obtain ⟨t, ht, rfl⟩ := List.mem_map.mp hx
        exact (atb _ (mr t ht)).same S35⟩
      have hb5 := bb3.same S35
      try walk_at "go"
      intro f f1 f2 H6 S6 w1 w2 w3
      have oR6 := S6 _ _ (S35 _ _ oR3t)
      try walk_at "go"
      intro D2 hD2
      refine lc_list (K := K) (a := R) (xs := rs.map fun t => V.ref t.1) (fun i H' => Kept (Same H6 H' ∧ H' D2 = some (.lst ((rs.take i).map fun t => V.int t.2.2)))) ⟨same_new hD2 _, upd_same⟩ (fun i H' _ h => SqL.of (h.ex.1 _ _ oR6)) ?_ ?_
      · rintro i y H7 hy ⟨S7, oD2⟩
        rw [List.getElem?_map] at hy
        obtain ⟨t, ht, rfl⟩ := Option.map_eq_some_iff.mp hy
        have il := (List.getElem?_eq_some_iff.mp ht).1
        have row := S7 _ _ (S6 _ _ (S35 _ _ (oR3.2 _ (List.mem_of_getElem? ht))))
        have li : ((rs.take i).map fun t => V.int t.2.2).length ≤ 40 := by rw [List.length_map, List.length_take]; omega
        try walk_at "go"
        exact ⟨but_same hD2 S7 But.upd, by rw [upd_same, takeS ht]⟩
      rintro H7 ⟨S7, oD2⟩
      rw [List.length_map, List.take_length] at oD2
      try walk_at "go"
      intro T2 hT2
      generalize eH8 : upd _ T2 _ = H8
      have SH8 := newS eH8 hT2
      have oT2 := newO eH8
      try walk_at "go"
      intro T3 hT3
      generalize eH9 : upd _ T3 _ = H9
      have SH9 := newS eH9 hT3
      have oT3 := newO eH9
      have S69 := S7.trans (SH8.trans SH9)
      have d1 : Dp K H9 (.ref f) (twoD (play (rs.map fun t => t.2.1) bs)) := TwoAt.dp ⟨f1, f2, S69 _ _ w1, S69 _ _ w2, S69 _ _ w3⟩
      have d2 : Dp K H9 (.ref T3) (twoD (play (rs.map fun t => t.2.1) bs)) := by
        rw [pl]
        exact TwoAt.dp ⟨T2, t2, oT3, by rw [SH9 _ _ oT2, List.map_map] <;> rfl, S69 _ _ (S6 _ _ (S35 _ _ g33))⟩
      have sh := (Ly.two (play (rs.map fun t => t.2.1) bs)).sh
      have er := (Ly.two (play (rs.map fun t => t.2.1) bs)).refl
      try walk_at "go"
      rw [er]
      have S39 := S35.trans (S6.trans S69)
      exact q _ ((same_but (S1.trans S2)).trans (b3.trans (same_but S39))) (p3.same S39)
/-! SPLIT -/
omit B in
/-- the place of a box in the row of exchanged ones -/
theorem Mx.pick {m : List Nat} {n b : Nat} (h : Mx m n) (hb : b < n) : ((iN m).map V.int)[m.idxOf b]? = some (.int (b : Nat)) ∧ ∀ (j : Nat) (z : V), j < m.idxOf b → ((iN m).map V.int)[j]? = some z → ∃ c : Nat, z = .int (c : Nat) ∧ c ≠ b := by
  refine ⟨iN_at (h.at hb), fun j z hj hz => ?_⟩
  obtain ⟨c, rfl, hc⟩ := iN_mem hz
  refine ⟨c, rfl, fun e => ?_⟩
  subst e
  have hjn : j < n := Nat.lt_trans hj (h.ixlt hb)
  have e1 := h.ix hjn
  rw [List.getD_eq_getElem?_getD, hc] at e1
  have e2 : m.idxOf c = j := e1
  omega
omit B in
theorem ren_at {α : Type} {m : List Nat} {n i : Nat} {d : α} {bs : List α} (hb : bs.length = n) (hi : i < n) : (ren m d bs)[i]? = some (bs.getD (m.idxOf i) d) := by
  unfold ren
  rw [List.getElem?_map, List.getElem?_range (by omega)] <;> rfl
omit B in
theorem ren_take {α : Type} {m : List Nat} {n i : Nat} {d : α} {bs : List α} (hb : bs.length = n) (hi : i < n) : (ren m d bs).take (i + 1) = (ren m d bs).take i ++ [bs.getD (m.idxOf i) d] := take_snoc (ren_at hb hi)
omit B in
theorem ren_map {α β : Type} {m : List Nat} {d : α} {l : List α} (f : α → β) : (ren m d l).map f = ren m (f d) (l.map f) := by
  unfold ren
  rw [List.map_map, List.length_map]
  refine List.map_congr_left fun b hb => ?_
  show f (l.getD (m.idxOf b) d) = (l.map f).getD (m.idxOf b) (f d)
  rw [List.getD_eq_getElem?_getD, List.getD_eq_getElem?_getD, List.getElem?_map]
  cases l[m.idxOf b]? <;> rfl
omit B in
theorem ren_mem {α : Type} {m : List Nat} {n : Nat} {d : α} {l : List α} (hm : Mx m n) (hl : l.length = n) {x : α} (h : x ∈ ren m d l) : x ∈ l := by
  obtain ⟨b, hb, rfl⟩ := List.mem_map.mp h
  have hi := hm.ixlt (b := b) (by have := List.mem_range.mp hb; omega)
  rw [List.getD_eq_getElem?_getD, List.getElem?_eq_getElem (by omega)]
  exact List.getElem_mem _
omit B in
theorem eqV_ii (a b : Int) : eqV (.int a) (.int b) = decide (a = b) := by first | rfl | (simp [eqV]) 
omit B in
theorem Mx.mini {m : List Nat} {n b : Nat} (h : Mx m n) (hb : b < n) : ∀ (j : Nat) (z : V), j < m.idxOf b → ((iN m).map V.int)[j]? = some z → eqV z (.int (b : Nat)) = false := fun j z h1 h2 => by
  obtain ⟨c, rfl, hc⟩ := (h.pick hb).2 j z h1 h2
  rw [eqV_ii]
  exact decide_eq_false (by omega)
def spBoxes (K : PySem.W.Frag) : Sp := fun vs H Q _ => ∃ (b k M : Addr) (bs : List Int) (as : List Ak) (m : List Nat), vs = [.ref b, .ref k, .ref M] ∧ BoardAt H b bs ∧ AsksAt H k as bs.length ∧ H M = some (.lst ((iN m).map V.int)) ∧ Mx m bs.length ∧ ∀ H', Same H H' → Q (.bl true) H'
theorem k__law_boxes (D : Df K mg "_law_boxes" s__law_boxes ["_law_board_here", "_law_asks_here", "_law_mixed_here"]) (D_played : Dn P w K mg base 7 "played" ["board", "asks"] (spPlay K)) (D_all_of : Dn P w K mg base 7 "all_of" ["board", "asks"] (spAll K)) (D_ahead_of : Dn P w K mg base 7 "ahead_of" ["board", "asks"] (spAhead K)) : Dn P w K mg base 8 "_law_boxes" ["_law_board_here", "_law_asks_here", "_law_mixed_here"] (spBoxes K) := by
  refine D.ok fun f fd F => okG0 F sc__law_boxes (fun vs H Q E h => ?_) (fun cdv A outer s H vs Q E hr h => ⟨_, (pss_cons (ps_asg (pe_cD D_played (hr.less (by decide)) rfl (pa_cons (pv 0) (pa_cons (pv 1) pa_nil))) (kk (K := K) (F := fun K => gTup K 2 _) (P := PG _ _) (pg_tup rfl (pgs_cons (pg_name (i := 3) sc__law_boxes.nd rfl (Or.inl rfl)) (pgs_cons (pg_name (i := 4) sc__law_boxes.nd rfl (Or.inr rfl)) pgs_nil)))))
    (pss_cons (ps_set (i := 5) sc__law_boxes.nd rfl (Or.inl rfl) (pe_callTy (tupOfK (K := K)) (by rfl) B.tuple_ (by decide +kernel) (pa_cons (pe_lc (own := [("_law_box", 9)]) (g := gName 9) (tt := tYes) rfl sc__law_boxes.nd (pi_range1 (by rfl) B.range_ (pa_cons (pe_callB (lenK (K := K)) (by rfl) B.len_ (by decide +kernel) (pa_cons (pv 0) pa_nil)) pa_nil)) (blkOk_by (own := [("_law_box", 9)]) (N := ["_law_board_here", "_law_asks_here", "_law_mixed_here", "_law_answers", "_law_last", "_law_other", "_law_named", "_law_found", "_law_together", "_law_box", "_law_hand", "_law_deed_here"]) (sc := defScope s__law_boxes) (by decide +kernel)) (fun _ _ _ _ _ => (pg_name (i := 9) sc__law_boxes.nd rfl (Or.inl rfl))) (fun _ _ _ _ _ => pts_nil) (fun _ _ _ _ _ => (pe_ix (kk (K := K) (F := rIxT) (P := IxR _) ix_tup) (pv 0) (kk (K := K) (F := fun K => tBM K "list" _ _ _) (P := PE _ _) (pe_bm PySem.F.plainAttrs_list PySem.F.slot_list_index PySem.F.type_list_index mt_index (pv 2) (pa_cons (pv 9) pa_nil))) (fun _ _ => rfl)))) pa_nil)))
    (pss_cons (ps_set (i := 6) sc__law_boxes.nd rfl (Or.inl rfl) (pe_callTy (tupOfK (K := K)) (by rfl) B.tuple_ (by decide +kernel) (pa_cons (pe_lc (own := [("_law_hand", 10), ("_law_box", 9), ("_law_deed_here", 11)]) (tt := tYes) rfl sc__law_boxes.nd (kk (K := K) (F := fun K => iTup K _) (P := PI _ _ _) (pi_tup (pv 1))) (blkOk_by (own := [("_law_hand", 10), ("_law_box", 9), ("_law_deed_here", 11)]) (N := ["_law_board_here", "_law_asks_here", "_law_mixed_here", "_law_answers", "_law_last", "_law_other", "_law_named", "_law_found", "_law_together", "_law_box", "_law_hand", "_law_deed_here"]) (sc := defScope s__law_boxes) (by decide +kernel)) (fun _ _ _ _ _ => (kk (K := K) (F := fun K => gTup K 3 _) (P := PG _ _) (pg_tup rfl (pgs_cons (pg_name (i := 10) sc__law_boxes.nd rfl (Or.inl rfl)) (pgs_cons (pg_name (i := 9) sc__law_boxes.nd rfl (Or.inl rfl)) (pgs_cons (pg_name (i := 11) sc__law_boxes.nd rfl (Or.inl rfl)) pgs_nil)))))) (fun _ _ _ _ _ => pts_nil) (fun _ _ _ _ _ => (pe_tup (pa_cons (pe_op op_sub pe_int (pv 10)) (pa_cons (pe_ix (kk (K := K) (F := rIxL) (P := IxR _) ix_list) (pv 2) (pv 9) (fun _ _ => rfl)) (pa_cons (pv 11) pa_nil)))))) pa_nil)))
    (pss_cons (ps_set (i := 7) sc__law_boxes.nd rfl (Or.inl rfl) (pe_cD D_played (hr.less (by decide)) rfl (pa_cons (pv 5) (pa_cons (pv 6) pa_nil))))
    (pss_cons (ps_if (pt_cmpR (kk (K := K) (F := rNeD) (P := OpR _ _) (op_neD hr.units)) (pv 7) (pe_tup (pa_cons (pv 3) (pa_cons (pe_callTy (tupOfK (K := K)) (by rfl) B.tuple_ (by decide +kernel) (pa_cons (pe_lc (own := [("_law_box", 9)]) (g := gName 9) (tt := tYes) rfl sc__law_boxes.nd (pi_range1 (by rfl) B.range_ (pa_cons (pe_callB (lenK (K := K)) (by rfl) B.len_ (by decide +kernel) (pa_cons (pv 0) pa_nil)) pa_nil)) (blkOk_by (own := [("_law_box", 9)]) (N := ["_law_board_here", "_law_asks_here", "_law_mixed_here", "_law_answers", "_law_last", "_law_other", "_law_named", "_law_found", "_law_together", "_law_box", "_law_hand", "_law_deed_here"]) (sc := defScope s__law_boxes) (by decide +kernel)) (fun _ _ _ _ _ => (pg_name (i := 9) sc__law_boxes.nd rfl (Or.inl rfl))) (fun _ _ _ _ _ => pts_nil) (fun _ _ _ _ _ => (pe_ix (kk (K := K) (F := rIxT) (P := IxR _) ix_tup) (pv 4) (kk (K := K) (F := fun K => tBM K "list" _ _ _) (P := PE _ _) (pe_bm PySem.F.plainAttrs_list PySem.F.slot_list_index PySem.F.type_list_index mt_index (pv 2) (pa_cons (pv 9) pa_nil))) (fun _ _ => rfl)))) pa_nil)) pa_nil))) (nomark _))
      (pss_one (ps_ret pe_bl))
      pss_nil)
    (pss_cons (ps_set (i := 8) sc__law_boxes.nd rfl (Or.inr rfl) (pe_cD D_all_of (hr.less (by decide)) rfl (pa_cons (pv 0) (pa_cons (pv 1) pa_nil))))
    (pss_cons (ps_if (pt_cmpR (kk (K := K) (F := rNeD) (P := OpR _ _) (op_neD hr.units)) (pe_cD D_all_of (hr.less (by decide)) rfl (pa_cons (pv 5) (pa_cons (pv 6) pa_nil))) (pe_callTy (tupOfK (K := K)) (by rfl) B.tuple_ (by decide +kernel) (pa_cons (pe_lc (own := [("_law_box", 9)]) (g := gName 9) (tt := tYes) rfl sc__law_boxes.nd (pi_range1 (by rfl) B.range_ (pa_cons (pe_callB (lenK (K := K)) (by rfl) B.len_ (by decide +kernel) (pa_cons (pv 0) pa_nil)) pa_nil)) (blkOk_by (own := [("_law_box", 9)]) (N := ["_law_board_here", "_law_asks_here", "_law_mixed_here", "_law_answers", "_law_last", "_law_other", "_law_named", "_law_found", "_law_together", "_law_box", "_law_hand", "_law_deed_here"]) (sc := defScope s__law_boxes) (by decide +kernel)) (fun _ _ _ _ _ => (pg_name (i := 9) sc__law_boxes.nd rfl (Or.inl rfl))) (fun _ _ _ _ _ => pts_nil) (fun _ _ _ _ _ => (pe_ix (kk (K := K) (F := rIxT) (P := IxR _) ix_tup) (pv 8) (kk (K := K) (F := fun K => tBM K "list" _ _ _) (P := PE _ _) (pe_bm PySem.F.plainAttrs_list PySem.F.slot_list_index PySem.F.type_list_index mt_index (pv 2) (pa_cons (pv 9) pa_nil))) (fun _ _ => rfl)))) pa_nil)) (nomark _))
      (pss_one (ps_ret pe_bl))
      pss_nil)
    (pss_one (ps_ret (pe_cmpR (kk (K := K) (F := rEqD) (P := OpR _ _) (op_eqD hr.units)) (pe_cD D_ahead_of (hr.less (by decide)) rfl (pa_cons (pv 5) (pa_cons (pv 6) pa_nil))) (pe_cD D_ahead_of (hr.less (by decide)) rfl (pa_cons (pv 0) (pa_cons (pv 1) pa_nil))) (nomark _))))))))))), ?_⟩)
  · obtain ⟨b, k, M, bs, as, m, rfl, _⟩ := h; rfl
  · obtain ⟨b, k, M, bs, as, m, rfl, hb, hk, hM, hm, q⟩ := h
    try walk_at "go"
    intro r t1 t2 H1 S1 g1 g2 g3
    have hb1 := hb.same S1
    have hbt1 := hb1.1
    have hM1 := S1 _ _ hM
    have hk1 := hk.same S1
    have lb : (bs.map V.int).length ≤ 16 := by rw [List.length_map]; exact hb.2.2
    have lb2 : (bs.map V.int).length = bs.length := List.length_map _
    have lM : ((iN m).map V.int).all flatV = true := by
      rw [List.all_eq_true]
      intro x hx
      obtain ⟨i, _, rfl⟩ := List.mem_map.mp hx
      rfl
    try walk_at "go"
    intro D hD
    have nb := hb.2.2
    rw [Int.toNat_natCast, lb2]
    refine lc_range (lo := 0) (n := bs.length) (fun i H' => Kept (Same H1 H' ∧ H' D = some (.lst (((ren m 0 bs).take i).map V.int)))) ⟨same_new hD _, upd_same⟩ ?_ ?_
    · rintro i H2 hi ⟨S2, oD⟩
      rw [Int.zero_add]
      have hM2 := S2 _ _ hM1
      have hbt2 := S2 _ _ hbt1
      obtain ⟨pk1, pk2⟩ := hm.pick hi
      have ixl := hm.ixlt hi
      have ax := atN (xs := bs) ixl
      have li : (((ren m 0 bs).take i).map V.int).length ≤ 40 := by rw [List.length_map, List.length_take, ren_len]; omega
      have eqi : eqV (.int (i : Nat)) (.int (i : Nat)) = true := by rw [eqV_ii]; exact decide_eq_true rfl
      have mini := hm.mini hi
      try walk_at "go"
      exact ⟨but_same hD S2 But.upd, by rw [upd_same, ren_take rfl hi, List.map_append] <;> rfl⟩
    rintro H2 ⟨S2, oD⟩
    rw [← ren_len (m := m) (d := 0), List.take_length] at oD
    try walk_at "go"
    intro T hT
    generalize eH3 : upd _ T _ = H3
    have SH3 := newS eH3 hT
    have oT := newO eH3
    have hk3 := hk1.same (S2.trans SH3)
    have hkt3 := hk3.1
    try walk_at "go"
    intro D2 hD2
    have h40 := hk.2.1
    have hM3 := (S2.trans SH3) _ _ hM1
    have hbx : ∀ x ∈ as, x.box < bs.length := fun x hx => (hk.2.2 x hx).2.2.2.2
    refine lc_tup (K := K) (a := k) (xs := as.map fun x => V.ref x.a) (fun i H' => Kept (∃ cs : List Ak, Same H3 H' ∧ H' D2 = some (.lst (cs.map fun x => V.ref x.a)) ∧ RenAs m (as.take i) cs ∧ ∀ y ∈ cs, y.at_ H' bs.length)) ⟨⟨[], same_new hD2 _, upd_same, .nil, fun y hy => nomatch hy⟩⟩ (fun i H' _ h => by obtain ⟨_, S, _⟩ := h.ex; exact SqT.of (S _ _ hkt3)) ?_ ?_
    · rintro i y H4 hy ⟨cs, S4, oD2, rn, atc⟩
      rw [List.getElem?_map] at hy
      obtain ⟨x, hx, rfl⟩ := Option.map_eq_some_iff.mp hy
      have il := (List.getElem?_eq_some_iff.mp hx).1
      have xm := List.mem_of_getElem? hx
      have x4 := (hk3.2.2 x xm).same S4
      have xt4 := x4.1
      have hM4 := S4 _ _ hM3
      have xb := hbx x xm
      have ib : atI ((iN m).map V.int) (x.box : Int) = some (.int (m.getD x.box 0 : Nat)) := atI_nat (iN_at (getD_at (by rw [hm.len]; exact xb)))
      have lc0 : cs.length = i := by rw [rn.len, List.length_take]; omega
      have li : (cs.map fun x => V.ref x.a).length ≤ 40 := by rw [List.length_map]; omega
      try walk_at "go"
      intro T2 hT2
      generalize eH5 : upd _ T2 _ = H5
      have SH5 := newS eH5 hT2
      have oT2 := newO eH5
      have oD5 := SH5 _ _ oD2
      try walk_at "go"
      have x5 := x4.same SH5
      refine ⟨⟨cs ++ [⟨T2, 15 - x.hand, m.getD x.box 0, x.da, x.d⟩], but_same hD2 (S4.trans SH5) But.upd, by rw [upd_same, List.map_append] <;> rfl, by rw [take_snoc hx]; exact .snoc rn ⟨rfl, rfl⟩, fun y hy => ?_⟩⟩
      rcases List.mem_append.mp hy with hy | hy
      · exact ((atc y hy).same SH5).but But.upd oD5
      · cases List.mem_singleton.mp hy
        have hx2 := x5.2.2
        exact Ak.at_.but (p := D2) But.upd oD5 ⟨oT2, x5.2.1, by show 0 ≤ 15 - x.hand; omega, by show 15 - x.hand < 16; omega, hm.lt xb⟩
    rintro H4 ⟨cs, S4, oD2, rn, atc⟩
    rw [List.length_map, List.take_length] at rn
    try walk_at "go"
    intro T2 hT2
    generalize eH5 : upd _ T2 _ = H5
    have SH5 := newS eH5 hT2
    have oT2 := newO eH5
    have S35 := S4.trans SH5
    have hb5 : BoardAt H5 T (ren m 0 bs) := ⟨S35 _ _ oT, by rw [ren_len]; exact hb.2⟩
    have lrc : cs.length = as.length := rn.len
    have hk5 : AsksAt H5 T2 cs (ren m 0 bs).length := ⟨oT2, by omega, fun x hx => by rw [ren_len]; exact (atc x hx).same SH5⟩
    try walk_at "go"
    intro f f1 f2 H6 S6 w1 w2 w3
    have S16 := (S2.trans SH3).trans (S35.trans S6)
    have hM6 := S16 _ _ hM1
    have g36 := S16 _ _ g3
    have hbt6 := S16 _ _ hbt1
    have lp2 := (play_len (as := as) (bs := bs)).2
    try walk_at "go"
    intro D3 hD3
    rw [Int.toNat_natCast, lb2]
    refine lc_range (lo := 0) (n := bs.length) (fun i H' => Kept (Same H6 H' ∧ H' D3 = some (.lst (((ren m 0 (play as bs).2).take i).map V.int)))) ⟨same_new hD3 _, upd_same⟩ ?_ ?_
    · rintro i H7 hi ⟨S7, oD3⟩
      rw [Int.zero_add]
      have hM7 := S7 _ _ hM6
      have g37 := S7 _ _ g36
      obtain ⟨pk1, pk2⟩ := hm.pick hi
      have ixl := hm.ixlt hi
      have ax := atN (xs := (play as bs).2) (j := m.idxOf i) (by omega)
      have li : (((ren m 0 (play as bs).2).take i).map V.int).length ≤ 40 := by rw [List.length_map, List.length_take, ren_len]; omega
      have eqi : eqV (.int (i : Nat)) (.int (i : Nat)) = true := by rw [eqV_ii]; exact decide_eq_true rfl
      have mini := hm.mini hi
      try walk_at "go"
      exact ⟨but_same hD3 S7 But.upd, by rw [upd_same, ren_take lp2 hi, List.map_append] <;> rfl⟩
    rintro H7 ⟨S7, oD3⟩
    rw [show bs.length = (ren m 0 (play as bs).2).length by rw [ren_len, lp2], List.take_length] at oD3
    try walk_at "go"
    intro T3 hT3
    generalize eH8 : upd _ T3 _ = H8
    have SH8 := newS eH8 hT3
    have oT3 := newO eH8
    try walk_at "go"
    intro T4 hT4
    generalize eH9 : upd _ T4 _ = H9
    have SH9 := newS eH9 hT4
    have oT4 := newO eH9
    have S69 := S7.trans (SH8.trans SH9)
    have S19 := S16.trans S69
    have rp := ren_play hm rn hbx
    have d1 : Dp K H9 (.ref f) (twoD (play cs (ren m 0 bs))) := TwoAt.dp ⟨f1, f2, S69 _ _ w1, S69 _ _ w2, S69 _ _ w3⟩
    have d2 : Dp K H9 (.ref T4) (twoD (play cs (ren m 0 bs))) := by
      rw [rp]
      exact TwoAt.dp ⟨t1, T3, oT4, S19 _ _ g2, SH9 _ _ oT3⟩
    have sh := (Ly.two (play cs (ren m 0 bs))).sh
    try walk_at "go"
    refine ifF (by rw [(Ly.two (play cs (ren m 0 bs))).refl] <;> rfl) ?_
    clear d1 d2 sh
    have hb9 := hb1.same S19
    have hk9 := hk1.same S19
    try walk_at "go"
    intro TG pg H10 S10 tg dg rg
    have S5A := S6.trans (S69.trans S10)
    have hb10 := hb5.same S5A
    have hk10 := hk5.same S5A
    try walk_at "go"
    intro TH ph H11 S11 th dh rh
    rw [ren_len] at dh
    have rm := ren_made hm rn hbx
    have lpg : pg.length = bs.length := by rw [dsOf_len dg, made_len.2]
    have tg11 := S11 _ _ tg
    have hM11 := (S69.trans (S10.trans S11)) _ _ hM6
    have hbt11 := (S69.trans (S10.trans S11)) _ _ hbt6
    try walk_at "go"
    intro D4 hD4
    rw [Int.toNat_natCast, lb2]
    refine lc_range (lo := 0) (n := bs.length) (fun i H' => Kept (Same H11 H' ∧ H' D4 = some (.lst (((ren m (0, look) pg).take i).map fun x => V.ref x.1)))) ⟨same_new hD4 _, upd_same⟩ ?_ ?_
    · rintro i H12 hi ⟨S12, oD4⟩
      rw [Int.zero_add]
      have hM12 := S12 _ _ hM11
      have tg12 := S12 _ _ tg11
      obtain ⟨pk1, pk2⟩ := hm.pick hi
      have ixl := hm.ixlt hi
      have ax : atI (pg.map fun x => V.ref x.1) (m.idxOf i : Int) = some (.ref (pg.getD (m.idxOf i) (0, look)).1) := atI_nat (by rw [List.getElem?_map, List.getD_eq_getElem?_getD, List.getElem?_eq_getElem (by omega)] <;> rfl)
      have li : (((ren m (0, look) pg).take i).map fun x => V.ref x.1).length ≤ 40 := by rw [List.length_map, List.length_take, ren_len]; omega
      have eqi : eqV (.int (i : Nat)) (.int (i : Nat)) = true := by rw [eqV_ii]; exact decide_eq_true rfl
      have mini := hm.mini hi
      try walk_at "go"
      exact ⟨but_same hD4 S12 But.upd, by rw [upd_same, ren_take lpg hi, List.map_append] <;> rfl⟩
    rintro H12 ⟨S12, oD4⟩
    rw [show bs.length = (ren m (0, look) pg).length by rw [ren_len, lpg], List.take_length] at oD4
    try walk_at "go"
    intro T5 hT5
    generalize eH13 : upd _ T5 _ = H13
    have SH13 := newS eH13 hT5
    have oT5 := newO eH13
    have S1113 := S12.trans SH13
    have dd1 : Dp K H13 (.ref TH) (refsD (ren m look (madeOf as bs.length).2)) := refs_dp' (by rw [dh, rm]) (SqT.of (S1113 _ _ th)) (rh.same S1113)
    have dd2 : Dp K H13 (.ref T5) (refsD (ren m look (madeOf as bs.length).2)) := refs_dp' (by unfold dsOf; rw [ren_map, ← dg] <;> rfl) (SqT.of oT5) fun x hx => (rg x (ren_mem hm lpg hx)).same (S11.trans S1113)
    have sh := (Ly.refs (ren m look (madeOf as bs.length).2)).sh
    try walk_at "go"
    refine ifF (by rw [(Ly.refs (ren m look (madeOf as bs.length).2)).refl] <;> rfl) ?_
    clear dd1 dd2 sh
    have hb13 := hb10.same (S11.trans S1113)
    have hk13 := hk10.same (S11.trans S1113)
    try walk_at "go"
    intro TA pa H14 S14 ta da ra
    have S914 := S10.trans (S11.trans (S1113.trans S14))
    have hb14 := hb9.same S914
    have hk14 := hk9.same S914
    try walk_at "go"
    intro TB pb H15 S15 tb db rb
    rw [ren_len, rm] at da
    have dd1 : Dp K H15 (.ref TA) (refsD (madeOf as bs.length).1) := refs_dp' da (SqT.of (S15 _ _ ta)) (ra.same S15)
    have dd2 : Dp K H15 (.ref TB) (refsD (madeOf as bs.length).1) := refs_dp' db (SqT.of tb) rb
    have sh := (Ly.refs (madeOf as bs.length).1).sh
    have er := (Ly.refs (madeOf as bs.length).1).refl
    try walk_at "go"
    rw [er]
    exact q _ (S1.trans (S19.trans (S914.trans S15)))
/-! SPLIT -/
def spRight (K : PySem.W.Frag) : Sp := fun vs H Q _ => ∃ (p : Addr), vs = [.ref p] ∧ PotAt H p ∧ ∀ H', But p H H' → Q (.bl true) H'
theorem k__law_right (D : Df K mg "_law_right" s__law_right ["_law_pot_here"]) (D__law_board : Dn P w K mg base 3 "_law_board" ["_law_pot_here"] spBoard) (D__law_asks : Dn P w K mg base 4 "_law_asks" ["_law_pot_here", "_law_board_here", "_law_most"] spAsks) (D__law_parted : Dn P w K mg base 8 "_law_parted" ["_law_board_here", "_law_asks_here", "_law_at"] (spParted K)) (D__law_boxes : Dn P w K mg base 8 "_law_boxes" ["_law_board_here", "_law_asks_here", "_law_mixed_here"] (spBoxes K)) (D__law_mixed : Dn P w K mg base 3 "_law_mixed" ["_law_pot_here", "_law_many"] spMixed) (D__law_neighbours : Dn P w K mg base 8 "_law_neighbours" ["_law_pot_here", "_law_board_here", "_law_asks_here"] (spNeigh K)) (D__law_draw : Dn P w K mg base 1 "_law_draw" ["_law_pot_here", "_law_many"] spTake) : Dn P w K mg base 9 "_law_right" ["_law_pot_here"] (spRight K) := by
  refine D.ok fun f fd F => okG0 F sc__law_right (fun vs H Q E h => ?_) (fun cdv A outer s H vs Q E hr h => ⟨_, (pss_cons (ps_set (i := 1) sc__law_right.nd rfl (Or.inl rfl) (pe_cD D__law_board (hr.less (by decide)) rfl (pa_cons (pv 0) pa_nil)))
    (pss_cons (ps_set (i := 2) sc__law_right.nd rfl (Or.inl rfl) (pe_cD D__law_asks (hr.less (by decide)) rfl (pa_cons (pv 0) (pa_cons (pv 1) (pa_cons pe_int pa_nil)))))
    (pss_cons (ps_set (i := 3) sc__law_right.nd rfl (Or.inl rfl) (pe_callB (reprK (K := K) hr) (by rfl) B.repr_ (by decide +kernel) (pa_cons (pe_lst (pa_cons (pv 1) (pa_cons (pv 2) pa_nil))) pa_nil)))
    (pss_cons (ps_if (pt_not (pt_val (pe_cD D__law_parted (hr.less (by decide)) rfl (pa_cons (pv 1) (pa_cons (pv 2) (pa_cons (pe_cD D__law_draw (hr.less (by decide)) rfl (pa_cons (pv 0) (pa_cons (pe_op op_add (pe_callB (lenK (K := K)) (by rfl) B.len_ (by decide +kernel) (pa_cons (pv 2) pa_nil)) pe_int) pa_nil))) pa_nil))))))
      (pss_one (ps_ret pe_bl))
      pss_nil)
    (pss_cons (ps_if (PW.pt (pw_or (pt_not (pt_val (pe_cD D__law_boxes (hr.less (by decide)) rfl (pa_cons (pv 1) (pa_cons (pv 2) (pa_cons (pe_cD D__law_mixed (hr.less (by decide)) rfl (pa_cons (pv 0) (pa_cons (pe_callB (lenK (K := K)) (by rfl) B.len_ (by decide +kernel) (pa_cons (pv 1) pa_nil)) pa_nil))) pa_nil)))))) (pw_or1 (pt_not (pt_val (pe_cD D__law_neighbours (hr.less (by decide)) rfl (pa_cons (pv 0) (pa_cons (pv 1) (pa_cons (pv 2) pa_nil)))))))))
      (pss_one (ps_ret pe_bl))
      pss_nil)
    (pss_one (ps_ret (pe_cmpR op_eq (pe_callB (reprK (K := K) hr) (by rfl) B.repr_ (by decide +kernel) (pa_cons (pe_lst (pa_cons (pv 1) (pa_cons (pv 2) pa_nil))) pa_nil)) (pv 3) (nomark _))))))))), ?_⟩)
  · obtain ⟨p, rfl, _⟩ := h; rfl
  · obtain ⟨p, rfl, hp, q⟩ := h
    try walk_at "go"
    intro b bs H1 b1 p1 nb hb hw
    try walk_at "go"
    intro k as H2 b2 p2 nk hk
    have hb2 : BoardAt H2 b bs := ⟨b2 _ _ (pot_ne hp nb) hb.1, hb.2⟩
    have hn := hb.2.2
    have h40 := hk.2.1
    obtain ⟨kd, ekd⟩ : ∃ d : PyData, d = .list [intsD bs, akD as] := ⟨_, rfl⟩
    have skd : Sh kd 4 2000000 := by
      rw [ekd]
      refine Sh.lst (f := id) (n := 3) (c := 800000) (j := 2) (xs := [intsD bs, akD as]) ?_ (Nat.le_refl _) (Nat.le_refl _) (by decide)
      intro x hx
      simp only [List.mem_cons, List.mem_nil_iff, or_false] at hx
      rcases hx with rfl | rfl
      · exact (ints_sh1 hw (by decide) hn).mono (by decide) (by decide)
      · exact hk.sh hn
    have dkd : ∀ {H' : Hp} {z : Addr}, BoardAt H' b bs → AsksAt H' k as bs.length → H' z = some (.lst [.ref b, .ref k]) → Dp K H' (.ref z) kd := fun h1 h2 hz => by
      rw [ekd]
      exact .lst (SqL.of hz) (.cons h1.dp (.cons h2.dp .nil))
    have kp : ∀ H', But p H2 H' → BoardAt H' b bs ∧ AsksAt H' k as bs.length := fun H' be => ⟨⟨pot_keep be p2 _ _ hb2.1, hb2.2⟩, hk.but be p2.choose_spec.choose_spec.1⟩
    have sk1 := skd.s
    have sk2 : kd.depth ≤ 60 := Nat.le_trans skd.dep (by decide)
    try walk_at "go"
    intro Z hZ
    generalize eH3 : upd _ Z _ = H3
    have SH3 := newS eH3 hZ
    have oZ := newO eH3
    have k3 := kp _ (same_but SH3)
    have dk3 := dkd k3.1 k3.2 oZ
    have sk3 := shown_sz skd.s (dp_noDict kd _ dk3) (Nat.le_trans skd.c (by decide))
    obtain ⟨hb3, hk3⟩ := k3
    have p3 := p2.same SH3
    have hkt3 := hk3.1
    have la : (as.map fun x => V.ref x.a).length ≤ 40 := by rw [List.length_map]; exact h40
    try walk_at "go"
    intro e0 H4 e1 e2 b4 p4
    obtain ⟨e, rfl⟩ : ∃ e : Nat, e0 = (e : Int) := ⟨e0.toNat, by omega⟩
    rw [List.length_map] at e2
    have B24 := (same_but (p := p) SH3).trans b4
    obtain ⟨hb4, hk4⟩ := kp _ B24
    try walk_at "go"
    intro H5 S5
    have p5 := p4.same S5
    have B25 := B24.trans (same_but S5)
    obtain ⟨hb5, hk5⟩ := kp _ B25
    have hbt5 := hb5.1
    have lbt : (bs.map V.int).length ≤ 16 := by rw [List.length_map]; exact hn
    have lbt2 : (bs.map V.int).length = bs.length := List.length_map _
    try walk_at "go"
    intro M m H6 b6 p6 nM oM hm
    rw [lbt2] at hm
    have B26 := B25.trans b6
    obtain ⟨hb6, hk6⟩ := kp _ B26
    try walk_at "go"
    intro H7 S7
    have p7 := p6.same S7
    have B27 := B26.trans (same_but S7)
    obtain ⟨hb7, hk7⟩ := kp _ B27
    try walk_at "go"
    intro H8 b8 p8
    have B28 := B27.trans b8
    obtain ⟨hb8, hk8⟩ := kp _ B28
    try walk_at "go"
    intro Z2 hZ2
    generalize eH9 : upd _ Z2 _ = H9
    have SH9 := newS eH9 hZ2
    have oZ2 := newO eH9
    obtain ⟨hb9, hk9⟩ := kp _ (B28.trans (same_but SH9))
    have dk9 := dkd hb9 hk9 oZ2
    try walk_at "go"
    rw [show decide (V.str kd.shown = V.str kd.shown) = true from decide_eq_true rfl]
    exact q _ (b1.trans (b2.trans (B28.trans (same_but SH9))))
def spLaw (K : PySem.W.Frag) : Sp := fun vs H Q _ => ∃ (a : Addr) (ns : List Int), vs = [.ref a] ∧ SqL K H a (ns.map V.int) ∧ ns.length ≤ 63 ∧ ∀ H', Q (.bl true) H'
theorem k_law {f : Addr} {fd : FuncData} (F : Fun K "law" "law" s_law f fd) (D__law_pot : Dn P w K mg base 1 "_law_pot" ["_law_script", "_law_k"] (spPot2 K)) (D__law_right : Dn P w K mg base 9 "_law_right" ["_law_pot_here"] (spRight K)) : FnG P w K mg base CX0 51 f fd ["_law_script"] (spLaw K) := by
  refine okG0 F sc_law (fun vs H Q E h => ?_) (fun cdv A outer s H vs Q E hr h => ⟨_, (pss_one (ps_ret (pe_callB (kk (K := K) (F := rAll) (P := CallR _ _) (cr_all rfl)) (by rfl) B.all_ (by decide +kernel) (pa_cons (pe_lc (own := [("_law_k", 1)]) (g := gName 1) (tt := tYes) rfl sc_law.nd (pi_range1 (by rfl) B.range_ (pa_cons (pe_callB (call_max2 rfl) (by rfl) B.max_ (by decide +kernel) (pa_cons pe_int (pa_cons (pe_callB (call_min2 rfl) (by rfl) B.min_ (by decide +kernel) (pa_cons (pe_callB (lenK (K := K)) (by rfl) B.len_ (by decide +kernel) (pa_cons (pv 0) pa_nil)) (pa_cons pe_int pa_nil))) pa_nil))) pa_nil)) (blkOk_by (own := [("_law_k", 1)]) (N := ["_law_script", "_law_k"]) (sc := defScope s_law) (by decide +kernel)) (fun _ _ _ _ _ => (pg_name (i := 1) sc_law.nd rfl (Or.inl rfl))) (fun _ _ _ _ _ => pts_nil) (fun _ _ _ _ _ => (pe_cD D__law_right (hr.less (by decide)) rfl (pa_cons (pe_cD D__law_pot (hr.less (by decide)) rfl (pa_cons (pv 0) (pa_cons (pv 1) pa_nil))) pa_nil)))) pa_nil)))), ?_⟩)
  · obtain ⟨a, ns, rfl, _⟩ := h; rfl
  · obtain ⟨a, ns, rfl, hs, hn, q⟩ := h
    refine ⟨_, rfl, a, _, rfl, .inl hs, _, _, rfl, _, _, rfl, _, rfl, ?_, ?_, fun D hD => ?_⟩
    · split <;> split <;> omega
    · split <;> split <;> omega
    have hN : (if (if (6 : Int) < ((ns.map V.int).length : Nat) then (6 : Int) else ((ns.map V.int).length : Nat)) > 1 then (if (6 : Int) < ((ns.map V.int).length : Nat) then (6 : Int) else ((ns.map V.int).length : Nat)) else 1).toNat ≤ 6 := by split <;> split <;> omega
    generalize (if (if (6 : Int) < ((ns.map V.int).length : Nat) then (6 : Int) else ((ns.map V.int).length : Nat)) > 1 then (if (6 : Int) < ((ns.map V.int).length : Nat) then (6 : Int) else ((ns.map V.int).length : Nat)) else 1).toNat = n at hN
    refine lc_range (lo := 0) (n := n) (fun i H2 => Same H H2 ∧ H2 D = some (.lst ((List.replicate i true).map V.bl))) ⟨same_new hD _, upd_same⟩ ?_ ?_
    · rintro i H2 hi ⟨S2, hD2⟩
      refine ⟨rfl, ?_⟩
      refine ⟨_, rfl, _, rfl, a, ns, i, by show [V.ref a, V.int (0 + (i : Int))] = _; rw [Int.zero_add], S2.seq hs, by omega, fun p H3 np S3 p3 => ?_⟩
      refine ⟨p, rfl, p3, fun H4 b4 => ?_⟩
      have S4 := but_same np S3 b4
      exact ⟨_, S4 _ _ hD2, by rw [rep_len]; exact small1000 (by omega), but_same hD (S2.trans S4) But.upd, by rw [upd_same, rep_snoc]⟩
    · rintro H2 ⟨S2, hD2⟩
      refine ⟨D, _, rfl, SqL.of hD2, ?_⟩
      rw [rep_all]
      exact q _
end
structure AllD (K : PySem.W.Frag) (mg : Str → Option Value) : Prop where
  d_is_whole : Df K mg "is_whole" s_is_whole ["thing"]
  d_is_row_of : Df K mg "is_row_of" s_is_row_of ["thing", "many"]
  d_is_end : Df K mg "is_end" s_is_end ["thing"]
  d_is_deed : Df K mg "is_deed" s_is_deed ["thing"]
  d_want_deed : Df K mg "want_deed" s_want_deed ["thing"]
  d_put_through : Df K mg "put_through" s_put_through ["deed", "value"]
  d_whole_deed : Df K mg "whole_deed" s_whole_deed ["add", "low", "high"]
  d_one_behind : Df K mg "one_behind" s_one_behind ["one", "other"]
  d_then : Df K mg "then" s_then ["one", "other"]
  d_is_board : Df K mg "is_board" s_is_board ["thing"]
  d_want_board : Df K mg "want_board" s_want_board ["board"]
  d_is_ask : Df K mg "is_ask" s_is_ask ["board", "thing"]
  d_are_asks : Df K mg "are_asks" s_are_asks ["board", "thing"]
  d_want_asks : Df K mg "want_asks" s_want_asks ["board", "asks"]
  d_played : Df K mg "played" s_played ["board", "asks"]
  d_all_of : Df K mg "all_of" s_all_of ["board", "asks"]
  d_ahead_of : Df K mg "ahead_of" s_ahead_of ["board", "asks"]
  d__law_pot : Df K mg "_law_pot" s__law_pot ["_law_script", "_law_k"]
  d__law_draw : Df K mg "_law_draw" s__law_draw ["_law_pot_here", "_law_many"]
  d__law_number : Df K mg "_law_number" s__law_number ["_law_pot_here"]
  d__law_deed : Df K mg "_law_deed" s__law_deed ["_law_pot_here"]
  d__law_board : Df K mg "_law_board" s__law_board ["_law_pot_here"]
  d__law_asks : Df K mg "_law_asks" s__law_asks ["_law_pot_here", "_law_board_here", "_law_most"]
  d__law_mixed : Df K mg "_law_mixed" s__law_mixed ["_law_pot_here", "_law_many"]
  d__law_parted : Df K mg "_law_parted" s__law_parted ["_law_board_here", "_law_asks_here", "_law_at"]
  d__law_neighbours : Df K mg "_law_neighbours" s__law_neighbours ["_law_pot_here", "_law_board_here", "_law_asks_here"]
  d__law_boxes : Df K mg "_law_boxes" s__law_boxes ["_law_board_here", "_law_asks_here", "_law_mixed_here"]
  d__law_right : Df K mg "_law_right" s__law_right ["_law_pot_here"]
  d_law : Df K mg "law" s_law ["_law_script"]
  bl : Bl K mg
theorem all_mk {w : World} {K : PySem.W.Frag} {h : Heap} {mg : Str → Option Value} (X : K.In h) (G : h.Ns mainGlobals mg)
    {f1 f2 f3 f4 f5 f6 f7 f8 f9 f10 f11 f12 f13 f14 f15 f16 f17 f18 f19 f20 f21 f22 f23 f24 f25 f26 f27 f28 f29 : Addr} {od1 an1 od2 an2 od3 an3 od4 an4 od5 an5 od6 an6 od7 an7 od8 an8 od9 an9 od10 an10 od11 an11 od12 an12 od13 an13 od14 an14 od15 an15 od16 an16 od17 an17 od18 an18 od19 an19 od20 an20 od21 an21 od22 an22 od23 an23 od24 an24 od25 an25 od26 an26 od27 an27 od28 an28 od29 an29 : Option Addr} {sl1 sl2 sl3 sl4 sl5 sl6 sl7 sl8 sl9 sl10 sl11 sl12 sl13 sl14 sl15 sl16 sl17 sl18 sl19 sl20 sl21 sl22 sl23 sl24 sl25 sl26 sl27 sl28 sl29 : Array (Option Value)} {oc1 kV1 dc1 pm1 cd1 ct1 oc2 kV2 dc2 pm2 cd2 ct2 oc3 kV3 dc3 pm3 cd3 ct3 oc4 kV4 dc4 pm4 cd4 ct4 oc5 kV5 dc5 pm5 cd5 ct5 oc6 kV6 dc6 pm6 cd6 ct6 oc7 kV7 dc7 pm7 cd7 ct7 oc8 kV8 dc8 pm8 cd8 ct8 oc9 kV9 dc9 pm9 cd9 ct9 oc10 kV10 dc10 pm10 cd10 ct10 oc11 kV11 dc11 pm11 cd11 ct11 oc12 kV12 dc12 pm12 cd12 ct12 oc13 kV13 dc13 pm13 cd13 ct13 oc14 kV14 dc14 pm14 cd14 ct14 oc15 kV15 dc15 pm15 cd15 ct15 oc16 kV16 dc16 pm16 cd16 ct16 oc17 kV17 dc17 pm17 cd17 ct17 oc18 kV18 dc18 pm18 cd18 ct18 oc19 kV19 dc19 pm19 cd19 ct19 oc20 kV20 dc20 pm20 cd20 ct20 oc21 kV21 dc21 pm21 cd21 ct21 oc22 kV22 dc22 pm22 cd22 ct22 oc23 kV23 dc23 pm23 cd23 ct23 oc24 kV24 dc24 pm24 cd24 ct24 oc25 kV25 dc25 pm25 cd25 ct25 oc26 kV26 dc26 pm26 cd26 ct26 oc27 kV27 dc27 pm27 cd27 ct27 oc28 kV28 dc28 pm28 cd28 ct28 oc29 kV29 dc29 pm29 cd29 ct29 : Value}
    (a1 : PySem.W.nsIn K mainGlobals "is_whole" = some (some (.ref f1))) (l1 : K.lookup f1 = some ⟨oc1, od1, .func (PySem.W.fnOf "is_whole" "is_whole" (defArgs s_is_whole) (defBody s_is_whole) (defScope s_is_whole) .none kV1 dc1 pm1 an1 cd1 ct1), sl1⟩) (c1 : PySem.W.codeIn K cd1 "is_whole" = true) (k1 : PySem.W.keepIn K (.ref f1) = true)
    (a2 : PySem.W.nsIn K mainGlobals "is_row_of" = some (some (.ref f2))) (l2 : K.lookup f2 = some ⟨oc2, od2, .func (PySem.W.fnOf "is_row_of" "is_row_of" (defArgs s_is_row_of) (defBody s_is_row_of) (defScope s_is_row_of) .none kV2 dc2 pm2 an2 cd2 ct2), sl2⟩) (c2 : PySem.W.codeIn K cd2 "is_row_of" = true) (k2 : PySem.W.keepIn K (.ref f2) = true)
    (a3 : PySem.W.nsIn K mainGlobals "is_end" = some (some (.ref f3))) (l3 : K.lookup f3 = some ⟨oc3, od3, .func (PySem.W.fnOf "is_end" "is_end" (defArgs s_is_end) (defBody s_is_end) (defScope s_is_end) .none kV3 dc3 pm3 an3 cd3 ct3), sl3⟩) (c3 : PySem.W.codeIn K cd3 "is_end" = true) (k3 : PySem.W.keepIn K (.ref f3) = true)
    (a4 : PySem.W.nsIn K mainGlobals "is_deed" = some (some (.ref f4))) (l4 : K.lookup f4 = some ⟨oc4, od4, .func (PySem.W.fnOf "is_deed" "is_deed" (defArgs s_is_deed) (defBody s_is_deed) (defScope s_is_deed) .none kV4 dc4 pm4 an4 cd4 ct4), sl4⟩) (c4 : PySem.W.codeIn K cd4 "is_deed" = true) (k4 : PySem.W.keepIn K (.ref f4) = true)
    (a5 : PySem.W.nsIn K mainGlobals "want_deed" = some (some (.ref f5))) (l5 : K.lookup f5 = some ⟨oc5, od5, .func (PySem.W.fnOf "want_deed" "want_deed" (defArgs s_want_deed) (defBody s_want_deed) (defScope s_want_deed) .none kV5 dc5 pm5 an5 cd5 ct5), sl5⟩) (c5 : PySem.W.codeIn K cd5 "want_deed" = true) (k5 : PySem.W.keepIn K (.ref f5) = true)
    (a6 : PySem.W.nsIn K mainGlobals "put_through" = some (some (.ref f6))) (l6 : K.lookup f6 = some ⟨oc6, od6, .func (PySem.W.fnOf "put_through" "put_through" (defArgs s_put_through) (defBody s_put_through) (defScope s_put_through) .none kV6 dc6 pm6 an6 cd6 ct6), sl6⟩) (c6 : PySem.W.codeIn K cd6 "put_through" = true) (k6 : PySem.W.keepIn K (.ref f6) = true)
    (a7 : PySem.W.nsIn K mainGlobals "whole_deed" = some (some (.ref f7))) (l7 : K.lookup f7 = some ⟨oc7, od7, .func (PySem.W.fnOf "whole_deed" "whole_deed" (defArgs s_whole_deed) (defBody s_whole_deed) (defScope s_whole_deed) .none kV7 dc7 pm7 an7 cd7 ct7), sl7⟩) (c7 : PySem.W.codeIn K cd7 "whole_deed" = true) (k7 : PySem.W.keepIn K (.ref f7) = true)
    (a8 : PySem.W.nsIn K mainGlobals "one_behind" = some (some (.ref f8))) (l8 : K.lookup f8 = some ⟨oc8, od8, .func (PySem.W.fnOf "one_behind" "one_behind" (defArgs s_one_behind) (defBody s_one_behind) (defScope s_one_behind) .none kV8 dc8 pm8 an8 cd8 ct8), sl8⟩) (c8 : PySem.W.codeIn K cd8 "one_behind" = true) (k8 : PySem.W.keepIn K (.ref f8) = true)
    (a9 : PySem.W.nsIn K mainGlobals "then" = some (some (.ref f9))) (l9 : K.lookup f9 = some ⟨oc9, od9, .func (PySem.W.fnOf "then" "then" (defArgs s_then) (defBody s_then) (defScope s_then) .none kV9 dc9 pm9 an9 cd9 ct9), sl9⟩) (c9 : PySem.W.codeIn K cd9 "then" = true) (k9 : PySem.W.keepIn K (.ref f9) = true)
    (a10 : PySem.W.nsIn K mainGlobals "is_board" = some (some (.ref f10))) (l10 : K.lookup f10 = some ⟨oc10, od10, .func (PySem.W.fnOf "is_board" "is_board" (defArgs s_is_board) (defBody s_is_board) (defScope s_is_board) .none kV10 dc10 pm10 an10 cd10 ct10), sl10⟩) (c10 : PySem.W.codeIn K cd10 "is_board" = true) (k10 : PySem.W.keepIn K (.ref f10) = true)
    (a11 : PySem.W.nsIn K mainGlobals "want_board" = some (some (.ref f11))) (l11 : K.lookup f11 = some ⟨oc11, od11, .func (PySem.W.fnOf "want_board" "want_board" (defArgs s_want_board) (defBody s_want_board) (defScope s_want_board) .none kV11 dc11 pm11 an11 cd11 ct11), sl11⟩) (c11 : PySem.W.codeIn K cd11 "want_board" = true) (k11 : PySem.W.keepIn K (.ref f11) = true)
    (a12 : PySem.W.nsIn K mainGlobals "is_ask" = some (some (.ref f12))) (l12 : K.lookup f12 = some ⟨oc12, od12, .func (PySem.W.fnOf "is_ask" "is_ask" (defArgs s_is_ask) (defBody s_is_ask) (defScope s_is_ask) .none kV12 dc12 pm12 an12 cd12 ct12), sl12⟩) (c12 : PySem.W.codeIn K cd12 "is_ask" = true) (k12 : PySem.W.keepIn K (.ref f12) = true)
    (a13 : PySem.W.nsIn K mainGlobals "are_asks" = some (some (.ref f13))) (l13 : K.lookup f13 = some ⟨oc13, od13, .func (PySem.W.fnOf "are_asks" "are_asks" (defArgs s_are_asks) (defBody s_are_asks) (defScope s_are_asks) .none kV13 dc13 pm13 an13 cd13 ct13), sl13⟩) (c13 : PySem.W.codeIn K cd13 "are_asks" = true) (k13 : PySem.W.keepIn K (.ref f13) = true)
    (a14 : PySem.W.nsIn K mainGlobals "want_asks" = some (some (.ref f14))) (l14 : K.lookup f14 = some ⟨oc14, od14, .func (PySem.W.fnOf "want_asks" "want_asks" (defArgs s_want_asks) (defBody s_want_asks) (defScope s_want_asks) .none kV14 dc14 pm14 an14 cd14 ct14), sl14⟩) (c14 : PySem.W.codeIn K cd14 "want_asks" = true) (k14 : PySem.W.keepIn K (.ref f14) = true)
    (a15 : PySem.W.nsIn K mainGlobals "played" = some (some (.ref f15))) (l15 : K.lookup f15 = some ⟨oc15, od15, .func (PySem.W.fnOf "played" "played" (defArgs s_played) (defBody s_played) (defScope s_played) .none kV15 dc15 pm15 an15 cd15 ct15), sl15⟩) (c15 : PySem.W.codeIn K cd15 "played" = true) (k15 : PySem.W.keepIn K (.ref f15) = true)
    (a16 : PySem.W.nsIn K mainGlobals "all_of" = some (some (.ref f16))) (l16 : K.lookup f16 = some ⟨oc16, od16, .func (PySem.W.fnOf "all_of" "all_of" (defArgs s_all_of) (defBody s_all_of) (defScope s_all_of) .none kV16 dc16 pm16 an16 cd16 ct16), sl16⟩) (c16 : PySem.W.codeIn K cd16 "all_of" = true) (k16 : PySem.W.keepIn K (.ref f16) = true)
    (a17 : PySem.W.nsIn K mainGlobals "ahead_of" = some (some (.ref f17))) (l17 : K.lookup f17 = some ⟨oc17, od17, .func (PySem.W.fnOf "ahead_of" "ahead_of" (defArgs s_ahead_of) (defBody s_ahead_of) (defScope s_ahead_of) .none kV17 dc17 pm17 an17 cd17 ct17), sl17⟩) (c17 : PySem.W.codeIn K cd17 "ahead_of" = true) (k17 : PySem.W.keepIn K (.ref f17) = true)
    (a18 : PySem.W.nsIn K mainGlobals "_law_pot" = some (some (.ref f18))) (l18 : K.lookup f18 = some ⟨oc18, od18, .func (PySem.W.fnOf "_law_pot" "_law_pot" (defArgs s__law_pot) (defBody s__law_pot) (defScope s__law_pot) .none kV18 dc18 pm18 an18 cd18 ct18), sl18⟩) (c18 : PySem.W.codeIn K cd18 "_law_pot" = true) (k18 : PySem.W.keepIn K (.ref f18) = true)
    (a19 : PySem.W.nsIn K mainGlobals "_law_draw" = some (some (.ref f19))) (l19 : K.lookup f19 = some ⟨oc19, od19, .func (PySem.W.fnOf "_law_draw" "_law_draw" (defArgs s__law_draw) (defBody s__law_draw) (defScope s__law_draw) .none kV19 dc19 pm19 an19 cd19 ct19), sl19⟩) (c19 : PySem.W.codeIn K cd19 "_law_draw" = true) (k19 : PySem.W.keepIn K (.ref f19) = true)
    (a20 : PySem.W.nsIn K mainGlobals "_law_number" = some (some (.ref f20))) (l20 : K.lookup f20 = some ⟨oc20, od20, .func (PySem.W.fnOf "_law_number" "_law_number" (defArgs s__law_number) (defBody s__law_number) (defScope s__law_number) .none kV20 dc20 pm20 an20 cd20 ct20), sl20⟩) (c20 : PySem.W.codeIn K cd20 "_law_number" = true) (k20 : PySem.W.keepIn K (.ref f20) = true)
    (a21 : PySem.W.nsIn K mainGlobals "_law_deed" = some (some (.ref f21))) (l21 : K.lookup f21 = some ⟨oc21, od21, .func (PySem.W.fnOf "_law_deed" "_law_deed" (defArgs s__law_deed) (defBody s__law_deed) (defScope s__law_deed) .none kV21 dc21 pm21 an21 cd21 ct21), sl21⟩) (c21 : PySem.W.codeIn K cd21 "_law_deed" = true) (k21 : PySem.W.keepIn K (.ref f21) = true)
    (a22 : PySem.W.nsIn K mainGlobals "_law_board" = some (some (.ref f22))) (l22 : K.lookup f22 = some ⟨oc22, od22, .func (PySem.W.fnOf "_law_board" "_law_board" (defArgs s__law_board) (defBody s__law_board) (defScope s__law_board) .none kV22 dc22 pm22 an22 cd22 ct22), sl22⟩) (c22 : PySem.W.codeIn K cd22 "_law_board" = true) (k22 : PySem.W.keepIn K (.ref f22) = true)
    (a23 : PySem.W.nsIn K mainGlobals "_law_asks" = some (some (.ref f23))) (l23 : K.lookup f23 = some ⟨oc23, od23, .func (PySem.W.fnOf "_law_asks" "_law_asks" (defArgs s__law_asks) (defBody s__law_asks) (defScope s__law_asks) .none kV23 dc23 pm23 an23 cd23 ct23), sl23⟩) (c23 : PySem.W.codeIn K cd23 "_law_asks" = true) (k23 : PySem.W.keepIn K (.ref f23) = true)
    (a24 : PySem.W.nsIn K mainGlobals "_law_mixed" = some (some (.ref f24))) (l24 : K.lookup f24 = some ⟨oc24, od24, .func (PySem.W.fnOf "_law_mixed" "_law_mixed" (defArgs s__law_mixed) (defBody s__law_mixed) (defScope s__law_mixed) .none kV24 dc24 pm24 an24 cd24 ct24), sl24⟩) (c24 : PySem.W.codeIn K cd24 "_law_mixed" = true) (k24 : PySem.W.keepIn K (.ref f24) = true)
    (a25 : PySem.W.nsIn K mainGlobals "_law_parted" = some (some (.ref f25))) (l25 : K.lookup f25 = some ⟨oc25, od25, .func (PySem.W.fnOf "_law_parted" "_law_parted" (defArgs s__law_parted) (defBody s__law_parted) (defScope s__law_parted) .none kV25 dc25 pm25 an25 cd25 ct25), sl25⟩) (c25 : PySem.W.codeIn K cd25 "_law_parted" = true) (k25 : PySem.W.keepIn K (.ref f25) = true)
    (a26 : PySem.W.nsIn K mainGlobals "_law_neighbours" = some (some (.ref f26))) (l26 : K.lookup f26 = some ⟨oc26, od26, .func (PySem.W.fnOf "_law_neighbours" "_law_neighbours" (defArgs s__law_neighbours) (defBody s__law_neighbours) (defScope s__law_neighbours) .none kV26 dc26 pm26 an26 cd26 ct26), sl26⟩) (c26 : PySem.W.codeIn K cd26 "_law_neighbours" = true) (k26 : PySem.W.keepIn K (.ref f26) = true)
    (a27 : PySem.W.nsIn K mainGlobals "_law_boxes" = some (some (.ref f27))) (l27 : K.lookup f27 = some ⟨oc27, od27, .func (PySem.W.fnOf "_law_boxes" "_law_boxes" (defArgs s__law_boxes) (defBody s__law_boxes) (defScope s__law_boxes) .none kV27 dc27 pm27 an27 cd27 ct27), sl27⟩) (c27 : PySem.W.codeIn K cd27 "_law_boxes" = true) (k27 : PySem.W.keepIn K (.ref f27) = true)
    (a28 : PySem.W.nsIn K mainGlobals "_law_right" = some (some (.ref f28))) (l28 : K.lookup f28 = some ⟨oc28, od28, .func (PySem.W.fnOf "_law_right" "_law_right" (defArgs s__law_right) (defBody s__law_right) (defScope s__law_right) .none kV28 dc28 pm28 an28 cd28 ct28), sl28⟩) (c28 : PySem.W.codeIn K cd28 "_law_right" = true) (k28 : PySem.W.keepIn K (.ref f28) = true)
    (a29 : PySem.W.nsIn K mainGlobals "law" = some (some (.ref f29))) (l29 : K.lookup f29 = some ⟨oc29, od29, .func (PySem.W.fnOf "law" "law" (defArgs s_law) (defBody s_law) (defScope s_law) .none kV29 dc29 pm29 an29 cd29 ct29), sl29⟩) (c29 : PySem.W.codeIn K cd29 "law" = true) (k29 : PySem.W.keepIn K (.ref f29) = true)
    (z0 : PySem.W.nsIn K mainGlobals "all" = some none)
    (z1 : PySem.W.nsIn K mainGlobals "bool" = some none)
    (z2 : PySem.W.nsIn K mainGlobals "enumerate" = some none)
    (z3 : PySem.W.nsIn K mainGlobals "int" = some none)
    (z4 : PySem.W.nsIn K mainGlobals "isinstance" = some none)
    (z5 : PySem.W.nsIn K mainGlobals "len" = some none)
    (z6 : PySem.W.nsIn K mainGlobals "list" = some none)
    (z7 : PySem.W.nsIn K mainGlobals "max" = some none)
    (z8 : PySem.W.nsIn K mainGlobals "min" = some none)
    (z9 : PySem.W.nsIn K mainGlobals "range" = some none)
    (z10 : PySem.W.nsIn K mainGlobals "repr" = some none)
    (z11 : PySem.W.nsIn K mainGlobals "tuple" = some none)
    (z12 : PySem.W.nsIn K mainGlobals "zip" = some none)
    {tc0_0 : Tok} {ga0 : Addr} {gd0 : Option Addr} {gn0 : Nat} {gs0 : Array (Option Value)} (cst0 : PySem.W.nsIn K mainGlobals "LOOK" = some (some (.ref ga0))) (cstl0 : K.lookup ga0 = some ⟨.type "tuple", gd0, .seq #[.int 0 tc0_0, .none, .none] gn0, gs0⟩)
    {tc1 : Tok} (cst1 : PySem.W.nsIn K mainGlobals "MOST_BOXES" = some (some (.int (16) tc1)))
    {tc2 : Tok} (cst2 : PySem.W.nsIn K mainGlobals "HANDS" = some (some (.int (16) tc2)))
    : AllD K mg := by
  exact ⟨Df.of l1 c1 k1 (PySem.W.mg_of X G a1) (fun _ _ _ _ _ _ us hl => match us, hl with | [_], _ => rfl), Df.of l2 c2 k2 (PySem.W.mg_of X G a2) (fun _ _ _ _ _ _ us hl => match us, hl with | [_, _], _ => rfl), Df.of l3 c3 k3 (PySem.W.mg_of X G a3) (fun _ _ _ _ _ _ us hl => match us, hl with | [_], _ => rfl), Df.of l4 c4 k4 (PySem.W.mg_of X G a4) (fun _ _ _ _ _ _ us hl => match us, hl with | [_], _ => rfl), Df.of l5 c5 k5 (PySem.W.mg_of X G a5) (fun _ _ _ _ _ _ us hl => match us, hl with | [_], _ => rfl), Df.of l6 c6 k6 (PySem.W.mg_of X G a6) (fun _ _ _ _ _ _ us hl => match us, hl with | [_, _], _ => rfl), Df.of l7 c7 k7 (PySem.W.mg_of X G a7) (fun _ _ _ _ _ _ us hl => match us, hl with | [_, _, _], _ => rfl), Df.of l8 c8 k8 (PySem.W.mg_of X G a8) (fun _ _ _ _ _ _ us hl => match us, hl with | [_, _], _ => rfl), Df.of l9 c9 k9 (PySem.W.mg_of X G a9) (fun _ _ _ _ _ _ us hl => match us, hl with | [_, _], _ => rfl), Df.of l10 c10 k10 (PySem.W.mg_of X G a10) (fun _ _ _ _ _ _ us hl => match us, hl with | [_], _ => rfl), Df.of l11 c11 k11 (PySem.W.mg_of X G a11) (fun _ _ _ _ _ _ us hl => match us, hl with | [_], _ => rfl), Df.of l12 c12 k12 (PySem.W.mg_of X G a12) (fun _ _ _ _ _ _ us hl => match us, hl with | [_, _], _ => rfl), Df.of l13 c13 k13 (PySem.W.mg_of X G a13) (fun _ _ _ _ _ _ us hl => match us, hl with | [_, _], _ => rfl), Df.of l14 c14 k14 (PySem.W.mg_of X G a14) (fun _ _ _ _ _ _ us hl => match us, hl with | [_, _], _ => rfl), Df.of l15 c15 k15 (PySem.W.mg_of X G a15) (fun _ _ _ _ _ _ us hl => match us, hl with | [_, _], _ => rfl), Df.of l16 c16 k16 (PySem.W.mg_of X G a16) (fun _ _ _ _ _ _ us hl => match us, hl with | [_, _], _ => rfl), Df.of l17 c17 k17 (PySem.W.mg_of X G a17) (fun _ _ _ _ _ _ us hl => match us, hl with | [_, _], _ => rfl), Df.of l18 c18 k18 (PySem.W.mg_of X G a18) (fun _ _ _ _ _ _ us hl => match us, hl with | [_, _], _ => rfl), Df.of l19 c19 k19 (PySem.W.mg_of X G a19) (fun _ _ _ _ _ _ us hl => match us, hl with | [_, _], _ => rfl), Df.of l20 c20 k20 (PySem.W.mg_of X G a20) (fun _ _ _ _ _ _ us hl => match us, hl with | [_], _ => rfl), Df.of l21 c21 k21 (PySem.W.mg_of X G a21) (fun _ _ _ _ _ _ us hl => match us, hl with | [_], _ => rfl), Df.of l22 c22 k22 (PySem.W.mg_of X G a22) (fun _ _ _ _ _ _ us hl => match us, hl with | [_], _ => rfl), Df.of l23 c23 k23 (PySem.W.mg_of X G a23) (fun _ _ _ _ _ _ us hl => match us, hl with | [_, _, _], _ => rfl), Df.of l24 c24 k24 (PySem.W.mg_of X G a24) (fun _ _ _ _ _ _ us hl => match us, hl with | [_, _], _ => rfl), Df.of l25 c25 k25 (PySem.W.mg_of X G a25) (fun _ _ _ _ _ _ us hl => match us, hl with | [_, _, _], _ => rfl), Df.of l26 c26 k26 (PySem.W.mg_of X G a26) (fun _ _ _ _ _ _ us hl => match us, hl with | [_, _, _], _ => rfl), Df.of l27 c27 k27 (PySem.W.mg_of X G a27) (fun _ _ _ _ _ _ us hl => match us, hl with | [_, _, _], _ => rfl), Df.of l28 c28 k28 (PySem.W.mg_of X G a28) (fun _ _ _ _ _ _ us hl => match us, hl with | [_], _ => rfl), Df.of l29 c29 k29 (PySem.W.mg_of X G a29) (fun _ _ _ _ _ _ us hl => match us, hl with | [_], _ => rfl), ⟨PySem.W.mg_none_of X G z0, PySem.W.mg_none_of X G z1, PySem.W.mg_none_of X G z2, PySem.W.mg_none_of X G z3, PySem.W.mg_none_of X G z4, PySem.W.mg_none_of X G z5, PySem.W.mg_none_of X G z6, PySem.W.mg_none_of X G z7, PySem.W.mg_none_of X G z8, PySem.W.mg_none_of X G z9, PySem.W.mg_none_of X G z10, PySem.W.mg_none_of X G z11, PySem.W.mg_none_of X G z12, ⟨_, PySem.W.mg_of X G cst0, _, _, _, cstl0, rfl, rfl, by show 3 ≤ sizeLine; decide, (.cons ⟨_, rfl⟩ (.cons rfl (.cons rfl .nil)))⟩, ⟨_, PySem.W.mg_of X G cst1⟩, ⟨_, PySem.W.mg_of X G cst2⟩⟩⟩

theorem law_fd {P : Program} {w : World} {K : PySem.W.Frag} {mg : Str → Option Value} {fa : Addr} (A : AllD K mg) (hfa : mg "law" = some (.ref fa)) :
    ∃ fd : FuncData, (∀ (s : Shared) (v : Value), BindsTo s fd ⟨[v], []⟩ [("_law_script", v)]) ∧ ∀ base : Heap, K.In base → base.Ns mainGlobals mg → FnG P w K mg base CX0 51 fa fd ["_law_script"] (spLaw K) := by
  obtain ⟨f, fd, F, m, b⟩ := A.d_law.ex
  have e := hfa.symm.trans m
  cases e
  refine ⟨fd, fun s v => by obtain ⟨oc, od, kV, doc, pm, an, cdv, ct, osl, rfl, lk, hcd⟩ := F.ex; exact .of_eq rfl, fun base _ _ => ?_⟩
  have B := A.bl
  have D_is_whole : Dn P w K mg base 1 "is_whole" ["thing"] spIsWhole := k_is_whole B A.d_is_whole 
  have D_is_row_of : Dn P w K mg base 1 "is_row_of" ["thing", "many"] (spIsRow K) := k_is_row_of B A.d_is_row_of 
  have D_is_end : Dn P w K mg base 2 "is_end" ["thing"] spIsEnd := k_is_end B A.d_is_end D_is_whole
  have D_is_deed : Dn P w K mg base 3 "is_deed" ["thing"] (spIsDeed K) := k_is_deed B A.d_is_deed D_is_whole D_is_row_of D_is_end
  have D_want_deed : Dn P w K mg base 4 "want_deed" ["thing"] (spWantDeed K) := k_want_deed B A.d_want_deed D_is_deed
  have D_put_through : Dn P w K mg base 1 "put_through" ["deed", "value"] (spPut K) := k_put_through B A.d_put_through 
  have D_whole_deed : Dn P w K mg base 1 "whole_deed" ["add", "low", "high"] spWholeDeed := k_whole_deed B A.d_whole_deed 
  have D_one_behind : Dn P w K mg base 2 "one_behind" ["one", "other"] (spBehind K) := k_one_behind B A.d_one_behind D_put_through D_whole_deed
  have D_then : Dn P w K mg base 5 "then" ["one", "other"] (spThen K) := k_then B A.d_then D_want_deed D_one_behind
  have D_is_board : Dn P w K mg base 2 "is_board" ["thing"] (spIsBoard K) := k_is_board B A.d_is_board D_is_whole
  have D_want_board : Dn P w K mg base 3 "want_board" ["board"] (spWantBoard K) := k_want_board B A.d_want_board D_is_board
  have D_is_ask : Dn P w K mg base 4 "is_ask" ["board", "thing"] (spIsAsk K) := k_is_ask B A.d_is_ask D_is_whole D_is_deed
  have D_are_asks : Dn P w K mg base 5 "are_asks" ["board", "thing"] (spAreAsks K) := k_are_asks B A.d_are_asks D_want_board D_is_ask
  have D_want_asks : Dn P w K mg base 6 "want_asks" ["board", "asks"] (spWantAsks K) := k_want_asks B A.d_want_asks D_are_asks
  have D_played : Dn P w K mg base 7 "played" ["board", "asks"] (spPlay K) := k_played B A.d_played D_want_asks D_put_through
  have D_all_of : Dn P w K mg base 7 "all_of" ["board", "asks"] (spAll K) := k_all_of B A.d_all_of D_want_asks D_one_behind
  have D_ahead_of : Dn P w K mg base 7 "ahead_of" ["board", "asks"] (spAhead K) := k_ahead_of B A.d_ahead_of D_want_asks D_one_behind
  have D__law_pot : Dn P w K mg base 1 "_law_pot" ["_law_script", "_law_k"] (spPot2 K) := k__law_pot B A.d__law_pot 
  have D__law_draw : Dn P w K mg base 1 "_law_draw" ["_law_pot_here", "_law_many"] spTake := k__law_draw B A.d__law_draw 
  have D__law_number : Dn P w K mg base 2 "_law_number" ["_law_pot_here"] spNumber := k__law_number B A.d__law_number D__law_draw
  have D__law_deed : Dn P w K mg base 3 "_law_deed" ["_law_pot_here"] spDeed := k__law_deed B A.d__law_deed D__law_draw D__law_number
  have D__law_board : Dn P w K mg base 3 "_law_board" ["_law_pot_here"] spBoard := k__law_board B A.d__law_board D__law_draw D__law_number
  have D__law_asks : Dn P w K mg base 4 "_law_asks" ["_law_pot_here", "_law_board_here", "_law_most"] spAsks := k__law_asks B A.d__law_asks D__law_draw D__law_deed
  have D__law_mixed : Dn P w K mg base 3 "_law_mixed" ["_law_pot_here", "_law_many"] spMixed := k__law_mixed B A.d__law_mixed D__law_draw
  have D__law_parted : Dn P w K mg base 8 "_law_parted" ["_law_board_here", "_law_asks_here", "_law_at"] (spParted K) := k__law_parted B A.d__law_parted D_played D_ahead_of D_all_of D_then
  have D__law_neighbours : Dn P w K mg base 8 "_law_neighbours" ["_law_pot_here", "_law_board_here", "_law_asks_here"] (spNeigh K) := k__law_neighbours B A.d__law_neighbours D_played D__law_draw
  have D__law_boxes : Dn P w K mg base 8 "_law_boxes" ["_law_board_here", "_law_asks_here", "_law_mixed_here"] (spBoxes K) := k__law_boxes B A.d__law_boxes D_played D_all_of D_ahead_of
  have D__law_right : Dn P w K mg base 9 "_law_right" ["_law_pot_here"] (spRight K) := k__law_right B A.d__law_right D__law_board D__law_asks D__law_parted D__law_boxes D__law_mixed D__law_neighbours D__law_draw
  exact k_law B F D__law_pot D__law_right

theorem walk {l : PySem.W.OpenLaw} {q : Program} {loose : List Str} {XP : (Str → Option Value) → Heap → Prop} {YP : World → Heap → Prop} {d : DefRec} {K : Params → PySem.W.Frag} (hn : l.most = some 63) (hdf : d.params.defaults = [])
    (hY : ∀ (w : World) (h : Heap), YP w h → (K w.params).In h) (hname : d.name = "law") (F : ∀ (w : World) (mg : Str → Option Value) (h : Heap), (K w.params).In h → h.Ns mainGlobals mg → AllD (K w.params) mg) :
    PySem.W.WalkO q loose XP YP l.row.toRowW d [] (fun f vs => PySem.call f vs) :=
  walk_G (n := 63) (k := 51) (x := "_law_script") (sp := spLaw) hn (by decide) hdf ⟨rfl, by decide, by decide⟩ hY
    (fun w mg fa h KX G hfa => law_fd (F w mg h KX G) (by rw [hname] at hfa; exact hfa)) fun _ _ a ns hl hS => ⟨a, ns, rfl, hS, hl, fun _ => rfl⟩
end Toy
open PySem PySem.W PyProof.Rows
set_option maxRecDepth 100000 in
set_option maxHeartbeats 0 in
theorem PySem.Challenge.cw_joinedasks_k28_whole_parted_and_exchange_holds : PySem.Challenge.rw_joinedasks_k28_whole_parted_and_exchange.Holds := by
  w_on; o_law; k_head; (case hw => w_witness2)
  k_fill
  refine Toy.walk (l := PySem.Challenge.rw_joinedasks_k28_whole_parted_and_exchange) rfl rfl (fun w h Y => PySem.W.kIn_of Y) rfl ?F
  case F =>
    intro w mg h KX G
    refine' Toy.all_mk (w := w) KX G ?a1 ?l1 ?c1 ?k1 ?a2 ?l2 ?c2 ?k2 ?a3 ?l3 ?c3 ?k3 ?a4 ?l4 ?c4 ?k4 ?a5 ?l5 ?c5 ?k5 ?a6 ?l6 ?c6 ?k6 ?a7 ?l7 ?c7 ?k7 ?a8 ?l8 ?c8 ?k8 ?a9 ?l9 ?c9 ?k9 ?a10 ?l10 ?c10 ?k10 ?a11 ?l11 ?c11 ?k11 ?a12 ?l12 ?c12 ?k12 ?a13 ?l13 ?c13 ?k13 ?a14 ?l14 ?c14 ?k14 ?a15 ?l15 ?c15 ?k15 ?a16 ?l16 ?c16 ?k16 ?a17 ?l17 ?c17 ?k17 ?a18 ?l18 ?c18 ?k18 ?a19 ?l19 ?c19 ?k19 ?a20 ?l20 ?c20 ?k20 ?a21 ?l21 ?c21 ?k21 ?a22 ?l22 ?c22 ?k22 ?a23 ?l23 ?c23 ?k23 ?a24 ?l24 ?c24 ?k24 ?a25 ?l25 ?c25 ?k25 ?a26 ?l26 ?c26 ?k26 ?a27 ?l27 ?c27 ?k27 ?a28 ?l28 ?c28 ?k28 ?a29 ?l29 ?c29 ?k29 ?z0 ?z1 ?z2 ?z3 ?z4 ?z5 ?z6 ?z7 ?z8 ?z9 ?z10 ?z11 ?z12 ?cst0 ?cstl0 ?cst1 ?cst2
    (case a1 => k_is)
    (case l1 => k_is)
    (case c1 => k_is)
    (case k1 => k_is)
    (case a2 => k_is)
    (case l2 => k_is)
    (case c2 => k_is)
    (case k2 => k_is)
    (case a3 => k_is)
    (case l3 => k_is)
    (case c3 => k_is)
    (case k3 => k_is)
    (case a4 => k_is)
    (case l4 => k_is)
    (case c4 => k_is)
    (case k4 => k_is)
    (case a5 => k_is)
    (case l5 => k_is)
    (case c5 => k_is)
    (case k5 => k_is)
    (case a6 => k_is)
    (case l6 => k_is)
    (case c6 => k_is)
    (case k6 => k_is)
    (case a7 => k_is)
    (case l7 => k_is)
    (case c7 => k_is)
    (case k7 => k_is)
    (case a8 => k_is)
    (case l8 => k_is)
    (case c8 => k_is)
    (case k8 => k_is)
    (case a9 => k_is)
    (case l9 => k_is)
    (case c9 => k_is)
    (case k9 => k_is)
    (case a10 => k_is)
    (case l10 => k_is)
    (case c10 => k_is)
    (case k10 => k_is)
    (case a11 => k_is)
    (case l11 => k_is)
    (case c11 => k_is)
    (case k11 => k_is)
    (case a12 => k_is)
    (case l12 => k_is)
    (case c12 => k_is)
    (case k12 => k_is)
    (case a13 => k_is)
    (case l13 => k_is)
    (case c13 => k_is)
    (case k13 => k_is)
    (case a14 => k_is)
    (case l14 => k_is)
    (case c14 => k_is)
    (case k14 => k_is)
    (case a15 => k_is)
    (case l15 => k_is)
    (case c15 => k_is)
    (case k15 => k_is)
    (case a16 => k_is)
    (case l16 => k_is)
    (case c16 => k_is)
    (case k16 => k_is)
    (case a17 => k_is)
    (case l17 => k_is)
    (case c17 => k_is)
    (case k17 => k_is)
    (case a18 => k_is)
    (case l18 => k_is)
    (case c18 => k_is)
    (case k18 => k_is)
    (case a19 => k_is)
    (case l19 => k_is)
    (case c19 => k_is)
    (case k19 => k_is)
    (case a20 => k_is)
    (case l20 => k_is)
    (case c20 => k_is)
    (case k20 => k_is)
    (case a21 => k_is)
    (case l21 => k_is)
    (case c21 => k_is)
    (case k21 => k_is)
    (case a22 => k_is)
    (case l22 => k_is)
    (case c22 => k_is)
    (case k22 => k_is)
    (case a23 => k_is)
    (case l23 => k_is)
    (case c23 => k_is)
    (case k23 => k_is)
    (case a24 => k_is)
    (case l24 => k_is)
    (case c24 => k_is)
    (case k24 => k_is)
    (case a25 => k_is)
    (case l25 => k_is)
    (case c25 => k_is)
    (case k25 => k_is)
    (case a26 => k_is)
    (case l26 => k_is)
    (case c26 => k_is)
    (case k26 => k_is)
    (case a27 => k_is)
    (case l27 => k_is)
    (case c27 => k_is)
    (case k27 => k_is)
    (case a28 => k_is)
    (case l28 => k_is)
    (case c28 => k_is)
    (case k28 => k_is)
    (case a29 => k_is)
    (case l29 => k_is)
    (case c29 => k_is)
    (case k29 => k_is)
    (case z0 => k_is)
    (case z1 => k_is)
    (case z2 => k_is)
    (case z3 => k_is)
    (case z4 => k_is)
    (case z5 => k_is)
    (case z6 => k_is)
    (case z7 => k_is)
    (case z8 => k_is)
    (case z9 => k_is)
    (case z10 => k_is)
    (case z11 => k_is)
    (case z12 => k_is)
    (case cst0 => k_is)
    (case cstl0 => k_is)
    (case cst1 => k_is)
    (case cst2 => k_is)
#print axioms PySem.Challenge.cw_joinedasks_k28_whole_parted_and_exchange_holds

