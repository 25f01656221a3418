import PyProof.Rows.All
import Wide.All
import OpenK.AllK
import Wide.FinOn
import HandS.ForMost
import HandS.Defaults
import HandS.WideBits
import HandS.Conv
import HandS.IsInst
import HandS.RaiseMore
import HandS.SortInts
import HandS.Style
import HandS.Codes
import HandS.ForExc
import HandS.TryMany
import HandS.Flow
import KE.KEqSeq
import PyProof.ReprRoads
import KE.GoesMore
import KE.KDictZip
import PyProof.ListNew
import HandS.SetFor
import HandS.Zip
import HandS.TupAny
import HandS.TupLen
import KE.KDictDisplayH
import KE.KDictSum
import HandS.Sort
import HandS.More
import HandS.Text
import HandS.Strs
import HandS.Iter
import PySem.Challenge.RW_joinedasks_k99_whole_loads_and_settings
set_option Elab.async false
set_option linter.all false
set_option maxRecDepth 100000
set_option maxHeartbeats 4000000
set_option exponentiation.threshold 100000
namespace Toy
open PySem PySem.Spec PyProof.Rows L2
/-- a def of the text stands behind its name -/
structure Df (K : PySem.W.Frag) (mg : Str → Option Value) (x : Str) (st : Stmt) (ps : List Str) : Prop where
  ex : ∃ f fd, Fun K x x st f fd ∧ mg x = some (.ref f) ∧ Binds K fd ps []
theorem Df.of {K : PySem.W.Frag} {mg : Str → Option Value} {x : Str} {st : Stmt} {ps : List Str} {f : Addr} {oc : Value} {od an : Option Addr} {osl : Array (Option Value)} {kV doc pm cdv ct : Value}
    (l : K.lookup f = some ⟨oc, od, .func (PySem.W.fnOf x x (defArgs st) (defBody st) (defScope st) .none kV doc pm an cdv ct), osl⟩) (c : PySem.W.codeIn K cdv x = true) (k : PySem.W.keepIn K (.ref f) = true) (m : mg x = some (.ref f))
    (h : ∀ (kV doc pm : Value) (an : Option Addr) (cdv ct : Value) (us : List Value), us.length = ps.length → bindArgs (PySem.W.fnOf x x (defArgs st) (defBody st) (defScope st) .none kV doc pm an cdv ct) ⟨us, []⟩ = pure (ps.zip us)) : Df K mg x st ps :=
  ⟨_, _, fun_mk l c k, m, (fun_mk l c k).binds h⟩
end Toy
namespace Toy
open PySem PySem.Spec PyProof.Rows L2
/-- room for calls, and nothing is being shown (repr, str of containers ask that) -/
structure RoomG (k : Nat) (A : Around) : Prop where
  room : Room k A
  idle : A.guards = some []
theorem RoomG.less {j k : Nat} {A : Around} (r : RoomG k A) (h : j ≤ k) : RoomG j A := ⟨r.room.mono h, r.idle⟩
theorem RoomG.units {k : Nat} {A : Around} (r : RoomG k A) : A.units + 64 < cLine := r.room.units
theorem RoomG.in_ {k : Nat} {A : Around} (r : RoomG (k + 1) A) (env : Env) : RoomG k (A.deeper env) := ⟨r.room.deeper env, r.idle⟩
/-- a def's promise under such a call -/
structure FnG (P : Program) (w : World) (K : PySem.W.Frag) (mg : Str → Option Value) (base : Heap) (CX : CXT) (k : Nat) (f : Addr) (fd : FuncData) (ps : List Str) (sp : Sp) : Prop where
  arity : ∀ vs H Q E, sp vs H Q E → vs.length = ps.length
  go : ∀ {A : Around} {outer : List Env} {s : Shared} {H : Hp} {args : Args} {us : List Value} {vs : List V} {Q : VK} {E : XK}, RoomG k A → Env0 P w K mg base A outer s H →
    BindsTo s fd args (ps.zip us) → Vals vs us → sp vs H Q E → codeAny (model P w) A (.call (.ref f) args) (CR CX outer P w H s Q E) s
section
variable {P : Program} {w : World} {K : PySem.W.Frag} {mg : Str → Option Value} {base : Heap} {CX : CXT}
/-- a body that ends well ends the call well -/
theorem flow_end {N : List Str} {qual : Str} {scope : Scope} {f : Addr} {cd : Value} {A : Around} {outer : List Env} {s : Shared} {H : Hp} {Q : VK} {E : XK} {fl : Flow} {s' : Shared}
    (h : SP (cxOf CX P w K mg base N qual scope f cd A outer s H E) [] { nx := fun _ H' => Q .non H', rt := Q } fl s') :
    ∃ u, (fl = .next ∧ u = Value.none ∨ fl = .ret u) ∧ CE outer P w H s Q u s' := by
  cases fl with
  | next =>
    obtain ⟨σ, H1, J, q⟩ := h
    exact ⟨_, .inl ⟨rfl, rfl⟩, .non, H1, J.os, J.bare, J.base, J.hok, rfl, q⟩
  | ret u =>
    obtain ⟨v, σ, H1, J, r, q⟩ := h
    exact ⟨u, .inr rfl, v, H1, J.os, J.bare, J.base, J.hok, r, q⟩
  | brk =>
    obtain ⟨_, _, _, q⟩ := h
    cases q
  | cont =>
    obtain ⟨_, _, _, q⟩ := h
    cases q
/-- a def of the text, whatever its defaults -/
structure FunA (K : PySem.W.Frag) (x qual : Str) (st : Stmt) (f : Addr) (fd : FuncData) : Prop where
  ex : ∃ (oc : Value) (od : Option Addr) (dV kV doc pm : Value) (an : Option Addr) (cdv ct : Value) (osl : Array (Option Value)),
    fd = PySem.W.fnOf x qual (defArgs st) (defBody st) (defScope st) dV kV doc pm an cdv ct ∧ K.lookup f = some ⟨oc, od, .func fd, osl⟩ ∧ PySem.W.codeIn K cdv qual = true
theorem toA {K : PySem.W.Frag} {x qual : Str} {st : Stmt} {f : Addr} {fd : FuncData} (F : Fun K x qual st f fd) : FunA K x qual st f fd := by
  obtain ⟨oc, od, kV, doc, pm, an, cdv, ct, osl, e, lk, hcd⟩ := F.ex
  exact ⟨⟨oc, od, .none, kV, doc, pm, an, cdv, ct, osl, e, lk, hcd⟩⟩
theorem okGA {x qual : Str} {st : Stmt} {f : Addr} {fd : FuncData} {N ps : List Str} {k : Nat} {sp : Sp} (F : FunA K x qual st f fd) (S : FnScope N ps (defScope st)) (ar : ∀ vs H Q E, sp vs H Q E → vs.length = ps.length)
    (body : ∀ (cdv : Value) (A : Around) (outer : List Env) (s : Shared) (H : Hp) (vs : List V) (Q : VK) (E : XK), RoomG k (A.deeper (envOfC qual (defScope st) s.heap.objs.size f cdv)) → sp vs H Q E →
      ∃ t, PSs (cxOf CX P w K mg base N qual (defScope st) f cdv A outer s H E) (defBody st) t ∧ t { nx := fun _ H' => Q .non H', rt := Q } (start N vs) H) : FnG P w K mg base CX (k + 1) f fd ps sp := by
  obtain ⟨oc, od, dV, kV, doc, pm, an, cdv, ct, osl, rfl, lk, hcd⟩ := F.ex
  refine ⟨ar, ?_⟩
  intro A outer s H args us vs Q E room e0 hb rv hsp
  have kin : K.In s.heap := e0.mod.kin.keeps fun b o z => (e0.bs b o z).1
  have nolim : s.heap.NoLimit := e0.mod.nolimit.keeps fun b o z => (e0.bs b o z).1
  have kinds : ∀ y ∈ ps.zip us, (defScope st).names.lookup y.1 = some .local ∨ ((defScope st).names.lookup y.1 = some .cell ∧ ((cellsFrom (s.heap.objs.size + 1) (defScope st).names []).lookup y.1).isSome = true) := by
    rintro ⟨n, v⟩ hy
    exact (S.par n (List.of_mem_zip hy).1).imp _root_.id fun q => ⟨q, PySem.W.cellsFrom_some _ _ _ (.inl q)⟩
  refine codeAny_call_function room.room.depth (kin _ _ lk) rfl S.co S.gen rfl (PySem.W.codeRec_of kin hcd) (hb _ _ _ _ (wpAny_newFunctionEnv_cells S.kind kinds fun env he s1 inC => ?_))
  subst he
  obtain ⟨t, ht, hq⟩ := body cdv A outer s H vs Q E (room.in_ _) hsp
  refine ⟨nolim.keeps inC.toInCall.keep, codeAny_func (wpAny_mono (ht.run [] s1 (start N vs) H _ (inv_start S room.room.hd e0 (ar _ _ _ _ hsp) rv inC) hq) (fun fl s' z => ?_) fun e s' z => z)⟩
  obtain ⟨u, c, q⟩ := flow_end z
  rcases c with ⟨rfl, rfl⟩ | rfl
  · exact q
  · exact q
theorem okG0A {x qual : Str} {st : Stmt} {f : Addr} {fd : FuncData} {N ps : List Str} {k : Nat} {sp : Sp} (F : FunA K x qual st f fd) (S : FnScope N ps (defScope st)) (ar : ∀ vs H Q E, sp vs H Q E → vs.length = ps.length)
    (body : ∀ (cdv : Value) (A : Around) (outer : List Env) (s : Shared) (H : Hp) (vs : List V) (Q : VK) (E : XK), RoomG k (A.deeper (envOfC qual (defScope st) s.heap.objs.size f cdv)) → sp vs H Q E →
      ∃ t, PSs (cxOf CX0 P w K mg base N qual (defScope st) f cdv A outer s H E).nox (defBody st) t ∧ t { nx := fun _ H' => Q .non H', rt := Q } (start N vs) H) : FnG P w K mg base CX0 (k + 1) f fd ps sp :=
  okGA F S ar fun cdv A outer s H vs Q E hr hsp => (body cdv A outer s H vs Q E hr hsp).imp fun _ z => ⟨z.1.nox, z.2⟩
theorem okG {x qual : Str} {st : Stmt} {f : Addr} {fd : FuncData} {N ps : List Str} {k : Nat} {sp : Sp} (F : Fun K x qual st f fd) (S : FnScope N ps (defScope st)) (ar : ∀ vs H Q E, sp vs H Q E → vs.length = ps.length)
    (body : ∀ (cdv : Value) (A : Around) (outer : List Env) (s : Shared) (H : Hp) (vs : List V) (Q : VK) (E : XK), RoomG k (A.deeper (envOfC qual (defScope st) s.heap.objs.size f cdv)) → sp vs H Q E →
      ∃ t, PSs (cxOf CX P w K mg base N qual (defScope st) f cdv A outer s H E) (defBody st) t ∧ t { nx := fun _ H' => Q .non H', rt := Q } (start N vs) H) : FnG P w K mg base CX (k + 1) f fd ps sp :=
  okGA (toA F) S ar body
theorem okG0 {x qual : Str} {st : Stmt} {f : Addr} {fd : FuncData} {N ps : List Str} {k : Nat} {sp : Sp} (F : Fun K x qual st f fd) (S : FnScope N ps (defScope st)) (ar : ∀ vs H Q E, sp vs H Q E → vs.length = ps.length)
    (body : ∀ (cdv : Value) (A : Around) (outer : List Env) (s : Shared) (H : Hp) (vs : List V) (Q : VK) (E : XK), RoomG k (A.deeper (envOfC qual (defScope st) s.heap.objs.size f cdv)) → sp vs H Q E →
      ∃ t, PSs (cxOf CX0 P w K mg base N qual (defScope st) f cdv A outer s H E).nox (defBody st) t ∧ t { nx := fun _ H' => Q .non H', rt := Q } (start N vs) H) : FnG P w K mg base CX0 (k + 1) f fd ps sp :=
  okG0A (toA F) S ar body
end
section
variable {X : Cx} {CX : CXT} {k : Nat} {f : Addr} {fd : FuncData} {ps : List Str} {sp : Sp}
theorem run_G {pins : List (Addr × Obj)} {σ : L2.St} {H : Hp} {s : Shared} {Q : VK} {E : XK} {us : List Value} {vs : List V} (F : FnG X.prog X.w X.K X.mg X.base CX k f fd ps sp) (hr : RoomG k X.A) (hb : Binds X.K fd ps [])
    (out : ∀ e s', CX X.stack H s E e s' → X.xe e s') (I : Inv X pins σ H s) (r : Vals vs us) (h : sp vs H Q E) : wpAny (model X.prog X.w) X.A (call (.ref f) us) (EP X pins σ Q) X.xe s := by
  have n := (r.length).symm.trans (F.arity _ _ _ _ h)
  have b := hb s us I.kIn (by rw [List.append_nil, n])
  rw [List.append_nil] at b
  refine wpAny_call (codeAny_mono (F.go hr I.env0 b r h) ?_)
  rintro (e | fl) s' q
  · exact out e s' q
  · match fl, q with
    | .ret u, q => exact I.after q
/-- a def and its promise, by its name -/
structure Dn (P : Program) (w : World) (K : PySem.W.Frag) (mg : Str → Option Value) (base : Heap) (k : Nat) (x : Str) (ps : List Str) (sp : Sp) : Prop where
  ex : ∃ f fd, FnG P w K mg base CX0 k f fd ps sp ∧ PySem.W.keepIn K (.ref f) = true ∧ mg x = some (.ref f) ∧ Binds K fd ps []
/-- .. that may raise -/
structure Dx (P : Program) (w : World) (K : PySem.W.Frag) (mg : Str → Option Value) (base : Heap) (k : Nat) (x : Str) (ps : List Str) (sp : Sp) : Prop where
  ex : ∃ f fd, FnG P w K mg base (L2.CX P w) k f fd ps sp ∧ PySem.W.keepIn K (.ref f) = true ∧ mg x = some (.ref f) ∧ Binds K fd ps []
theorem Df.ok {P : Program} {w : World} {K : PySem.W.Frag} {mg : Str → Option Value} {base : Heap} {x : Str} {st : Stmt} (D : Df K mg x st ps)
    (h : ∀ f fd, Fun K x x st f fd → FnG P w K mg base CX0 k f fd ps sp) : Dn P w K mg base k x ps sp := by
  obtain ⟨f, fd, F, m, b⟩ := D.ex
  exact ⟨f, fd, h f fd F, F.kp, m, b⟩
theorem Df.okX {P : Program} {w : World} {K : PySem.W.Frag} {mg : Str → Option Value} {base : Heap} {x : Str} {st : Stmt} (D : Df K mg x st ps)
    (h : ∀ f fd, Fun K x x st f fd → FnG P w K mg base (L2.CX P w) k f fd ps sp) : Dx P w K mg base k x ps sp := by
  obtain ⟨f, fd, F, m, b⟩ := D.ex
  exact ⟨f, fd, h f fd F, F.kp, m, b⟩
variable {x : Str} {p pos : Pos} {e : Expr} {es : List Expr} {t : TA}
theorem pe_cD (D : Dn X.prog X.w X.K X.mg X.base k x ps sp) (hr : RoomG k X.A) (hg : Gl X x) (ha : PA X (e :: es) t) (hdb : (x == ("__debug__" : Str)) = false := by decide)
    (he : starEach (e :: es) X.env = (false, eval e X.env) :: starEach es X.env := by rfl) (hpl : (backTo pos (starEach es X.env)).any (·.1) = false := by rfl) : PE X (.Call (.Name x p) (e :: es) [] pos) (tCall sp [] E0 t) := by
  obtain ⟨f, fd, F, hk, hm, hb⟩ := D.ex
  refine ⟨fun pins s σ H Q I h => wpAny_Call_Name_kw (ld_glob I hg hm (PySem.W.callWith_K (h₀ := X.base) I.ok.mod.kin hk (thn (ha.run pos pins s σ H _ I h) fun us s1 ⟨vs, H1, I1, r, q⟩ => ⟨I1.kIn, ?_⟩) he hpl) hdb)⟩
  have q' : sp vs H1 Q E0 := by
    have z : sp (vs ++ []) H1 Q E0 := q
    rw [List.append_nil] at z
    exact z
  exact run_G F hr hb (fun _ _ z => z.elim) I1 r q'
theorem pe_cD0 (D : Dn X.prog X.w X.K X.mg X.base k x ps sp) (hr : RoomG k X.A) (hg : Gl X x) (hdb : (x == ("__debug__" : Str)) = false := by decide) : PE X (.Call (.Name x p) [] [] pos) (tCall sp [] E0 tNil) := by
  obtain ⟨f, fd, F, hk, hm, hb⟩ := D.ex
  refine ⟨fun pins s σ H Q I h => wpAny_Call_Name_kw (ld_glob I hg hm (PySem.W.callWith_K0 I.kIn hk (run_G (us := []) F hr hb (fun _ _ z => z.elim) I .nil h)) hdb)⟩
/-- a def with defaults: dvs fill up -/
structure Dfd (K : PySem.W.Frag) (mg : Str → Option Value) (x : Str) (st : Stmt) (ps : List Str) (dvs : List V) : Prop where
  ex : ∃ (f : Addr) (fd : FuncData) (ds : List Value), FunA K x x st f fd ∧ PySem.W.keepIn K (.ref f) = true ∧ mg x = some (.ref f) ∧ Binds K fd ps ds ∧ Vals dvs ds
theorem Dfd.of {K : PySem.W.Frag} {mg : Str → Option Value} {x : Str} {st : Stmt} {ps : List Str} {dvs : List V} {f T : Addr} {oc : Value} {od an : Option Addr} {osl : Array (Option Value)} {kV doc pm cdv ct : Value} {o : Obj} {its : List Value} {n m : Nat}
    (l : K.lookup f = some ⟨oc, od, .func (PySem.W.fnOf x x (defArgs st) (defBody st) (defScope st) (.ref T) kV doc pm an cdv ct), osl⟩) (c : PySem.W.codeIn K cdv x = true) (k : PySem.W.keepIn K (.ref f) = true) (mx : mg x = some (.ref f))
    (lT : K.lookup T = some o) (oT : o.data = .seq its.toArray m) (rT : Vals dvs its) (hn : n + dvs.length = ps.length)
    (h : ∀ (us : List Value), us.length = n → ∃ kk, bindArgs (PySem.W.fnOf x x (defArgs st) (defBody st) (defScope st) (.ref T) kV doc pm an cdv ct) ⟨us, []⟩ = seqItems? (.ref T) >>= kk ∧ kk (some its.toArray) = pure (ps.zip (us ++ its))) : Dfd K mg x st ps dvs := by
  refine ⟨f, _, its, ⟨⟨_, _, _, _, _, _, _, _, _, _, rfl, l, c⟩⟩, k, mx, fun s us X hlen => ?_, rT⟩
  have l1 := rT.length
  have l2 : us.length = n := by
    rw [List.length_append] at hlen
    omega
  obtain ⟨kk, e1, e2⟩ := h us l2
  refine BindsTo.of_looks fun M => ?_
  rw [e1]
  exact looks_items X lT oT (.of_pure e2)
/-- .. all parameters given -/
theorem Dfd.ofAll {K : PySem.W.Frag} {mg : Str → Option Value} {x : Str} {st : Stmt} {ps : List Str} {f T : Addr} {oc : Value} {od an : Option Addr} {osl : Array (Option Value)} {kV doc pm cdv ct : Value} {o : Obj} {its : List Value} {n m : Nat}
    (l : K.lookup f = some ⟨oc, od, .func (PySem.W.fnOf x x (defArgs st) (defBody st) (defScope st) (.ref T) kV doc pm an cdv ct), osl⟩) (c : PySem.W.codeIn K cdv x = true) (k : PySem.W.keepIn K (.ref f) = true) (mx : mg x = some (.ref f))
    (lT : K.lookup T = some o) (oT : o.data = .seq its.toArray m) (hn : n = ps.length)
    (h : ∀ (us : List Value), us.length = n → ∃ kk, bindArgs (PySem.W.fnOf x x (defArgs st) (defBody st) (defScope st) (.ref T) kV doc pm an cdv ct) ⟨us, []⟩ = seqItems? (.ref T) >>= kk ∧ kk (some its.toArray) = pure (ps.zip us)) : Dfd K mg x st ps [] := by
  refine ⟨f, _, [], ⟨⟨_, _, _, _, _, _, _, _, _, _, rfl, l, c⟩⟩, k, mx, fun s us X hlen => ?_, .nil⟩
  have l2 : us.length = n := by
    rw [List.append_nil] at hlen
    omega
  obtain ⟨kk, e1, e2⟩ := h us l2
  refine BindsTo.of_looks fun M => ?_
  rw [e1, List.append_nil]
  exact looks_items X lT oT (.of_pure e2)
/-- .. and its promise -/
structure DnD (P : Program) (w : World) (K : PySem.W.Frag) (mg : Str → Option Value) (base : Heap) (k : Nat) (x : Str) (ps : List Str) (dvs : List V) (sp : Sp) : Prop where
  ex : ∃ (f : Addr) (fd : FuncData) (ds : List Value), FnG P w K mg base CX0 k f fd ps sp ∧ PySem.W.keepIn K (.ref f) = true ∧ mg x = some (.ref f) ∧ Binds K fd ps ds ∧ Vals dvs ds
theorem Dfd.ok {P : Program} {w : World} {K : PySem.W.Frag} {mg : Str → Option Value} {base : Heap} {x : Str} {st : Stmt} {dvs : List V} (D : Dfd K mg x st ps dvs)
    (h : ∀ f fd, FunA K x x st f fd → FnG P w K mg base CX0 k f fd ps sp) : DnD P w K mg base k x ps dvs sp := by
  obtain ⟨f, fd, ds, F, kp, m, b, d⟩ := D.ex
  exact ⟨f, fd, ds, h f fd F, kp, m, b, d⟩
theorem run_Gd {pins : List (Addr × Obj)} {σ : L2.St} {H : Hp} {s : Shared} {Q : VK} {E : XK} {us ds : List Value} {vs dvs : List V} (F : FnG X.prog X.w X.K X.mg X.base CX k f fd ps sp) (hr : RoomG k X.A) (hb : Binds X.K fd ps ds) (hd : Vals dvs ds)
    (out : ∀ e s', CX X.stack H s E e s' → X.xe e s') (I : Inv X pins σ H s) (r : Vals vs us) (h : sp (vs ++ dvs) H Q E) : wpAny (model X.prog X.w) X.A (call (.ref f) us) (EP X pins σ Q) X.xe s := by
  have r2 : Vals (vs ++ dvs) (us ++ ds) := r.append hd
  have n : (us ++ ds).length = ps.length := by rw [← r2.length]; exact F.arity _ _ _ _ h
  refine wpAny_call (codeAny_mono (F.go hr I.env0 (hb s us I.kIn n) r2 h) ?_)
  rintro (e | fl) s' q
  · exact out e s' q
  · match fl, q with
    | .ret u, q => exact I.after q
theorem pe_cDd {dvs : List V} (D : DnD X.prog X.w X.K X.mg X.base k x ps dvs sp) (hr : RoomG k X.A) (hg : Gl X x) (ha : PA X (e :: es) t) (hdb : (x == ("__debug__" : Str)) = false := by decide)
    (he : starEach (e :: es) X.env = (false, eval e X.env) :: starEach es X.env := by rfl) (hpl : (backTo pos (starEach es X.env)).any (·.1) = false := by rfl) : PE X (.Call (.Name x p) (e :: es) [] pos) (tCall sp dvs E0 t) := by
  obtain ⟨f, fd, ds, F, hk, hm, hb, hd⟩ := D.ex
  refine ⟨fun pins s σ H Q I h => wpAny_Call_Name_kw (ld_glob I hg hm (PySem.W.callWith_K (h₀ := X.base) I.ok.mod.kin hk (thn (ha.run pos pins s σ H _ I h) fun us s1 ⟨vs, H1, I1, r, q⟩ => ⟨I1.kIn, ?_⟩) he hpl) hdb)⟩
  exact run_Gd F hr hb hd (fun _ _ z => z.elim) I1 r q
/-- a call within a try: what is raised is wished at the slots -/
theorem pe_cX {E : L2.St → XK} (D : Dx X.prog X.w X.K X.mg X.base k x ps sp) (hr : RoomG k X.A) (hg : Gl X x) (hx : ∀ σ, PassesAt (L2.CX X.prog X.w) X σ (E σ)) (ha : PA X (e :: es) t) (hdb : (x == ("__debug__" : Str)) = false := by decide)
    (he : starEach (e :: es) X.env = (false, eval e X.env) :: starEach es X.env := by rfl) (hpl : (backTo pos (starEach es X.env)).any (·.1) = false := by rfl) : PE X (.Call (.Name x p) (e :: es) [] pos) (tCallS sp E t) := by
  obtain ⟨f, fd, F, hk, hm, hb⟩ := D.ex
  exact ⟨fun pins s σ H Q I h => wpAny_Call_Name_kw (ld_glob I hg hm (PySem.W.callWith_K (h₀ := X.base) I.ok.mod.kin hk (thn (ha.run pos pins s σ H _ I h) fun us s1 ⟨vs, H1, I1, r, q⟩ =>
    ⟨I1.kIn, run_G F hr hb (fun e s' z => hx σ pins H1 s1 e s' I1 z) I1 r q⟩) he hpl) hdb)⟩
/-- repr of what is data -/
def rRepr (K : PySem.W.Frag) : List V → Hp → VK → Prop := fun xs H Q => ∃ (x : V) (d : PyData), xs = [x] ∧ Dp K H x d ∧ d.showable = true ∧ d.depth ≤ 60 ∧ d.shown.length ≤ sizeLine ∧ Q (.str d.shown) H
mutual
theorem dp_noDict {K : PySem.W.Frag} {H : Hp} : ∀ (d : PyData) (x : V), Dp K H x d → d.hasDict = false
  | .none, _, _ => rfl
  | .bool _, _, _ => rfl
  | .int _, _, _ => rfl
  | .str _, _, _ => rfl
  | .list ds, _, h => by
    cases h with
    | lst _ ha => simpa [PyData.hasDict] using dp_noDicts ds _ ha
  | .tuple ds, _, h => by
    cases h with
    | tup _ ha => simpa [PyData.hasDict] using dp_noDicts ds _ ha
  | .dict _, _, h => by cases h
theorem dp_noDicts {K : PySem.W.Frag} {H : Hp} : ∀ (ds : List PyData) (xs : List V), DpAll K H xs ds → PyData.hasDictAll ds = false
  | [], _, _ => by simp [PyData.hasDictAll]
  | d :: ds, _, h => by
    cases h with
    | cons a b => simp [PyData.hasDictAll, dp_noDict d _ a, dp_noDicts ds _ b]
end
theorem reprK {K : PySem.W.Frag} (hr : RoomG k X.A) (eK : X.K = K := by rfl) : CallR X (.builtin "repr") (rRepr K) := by
  cases eK
  intro pins s σ H xs us Q I r h
  obtain ⟨x, d, rfl, hd, hs, hdep, hz, q⟩ := h
  obtain ⟨u, rfl, rx⟩ := vals1 r
  obtain ⟨as, rd⟩ := Dp.reads I d x u hd rx
  have hu := hr.units
  have nd := dp_noDict d x hd
  cases hd with
  | non => cases rx; exact PySem.P.repr_of_none ⟨.str _, H, I.tok _, ⟨_, rfl⟩, q⟩
  | bl b => cases rx; exact PySem.P.repr_of_bool ⟨.str _, H, I.tok _, ⟨_, rfl⟩, q⟩
  | int i => obtain ⟨t, rfl⟩ := rx; exact PySem.P.repr_of_int (of_decide_eq_true (by simpa [PyData.showable] using hs)) ⟨.str _, H, I.tok _, ⟨_, rfl⟩, q⟩
  | str z => obtain ⟨t, rfl⟩ := rx; exact PySem.P.repr_of_str ⟨.str _, H, I.tok _, ⟨_, rfl⟩, q⟩ hz
  | lst hq ha =>
    cases rx
    refine repr_of_reads' rd hs (PyData.noDict_hsm nd) hr.idle (by omega) (fun _ _ z => z) (fun h' u tk hk => ⟨.str _, H, I.kept hk, ⟨_, rfl⟩, q⟩) hz
  | tup hq ha =>
    cases rx
    refine repr_of_reads' rd hs (PyData.noDict_hsm nd) hr.idle (by omega) (fun _ _ z => z) (fun h' u tk hk => ⟨.str _, H, I.kept hk, ⟨_, rfl⟩, q⟩) hz
end
end Toy
namespace Toy
open PySem PySem.Spec PyProof.Rows L2
/-- what was tracked stays, but for one object -/
def But (p : Addr) (H H' : Hp) : Prop := ∀ b o, b ≠ p → H b = some o → H' b = some o
theorem But.refl {p : Addr} {H : Hp} : But p H H := fun _ _ _ h => h
theorem But.trans {p : Addr} {H H1 H2 : Hp} (a : But p H H1) (b : But p H1 H2) : But p H H2 := fun c o n h => b c o n (a c o n h)
theorem But.free {p : Addr} {H H' : Hp} (e : But p H H') {l : Addr} (n : l ≠ p) (h : H' l = Option.none) : H l = Option.none := by
  cases q : H l with
  | none => rfl
  | some o =>
    rw [e l o n q] at h
    cases h
theorem same_but {p : Addr} {H H' : Hp} (a : Same H H') : But p H H' := fun c o _ h => a c o h
theorem But.upd {p : Addr} {H : Hp} {o : HO} : But p H (upd H p o) := fun b u n h => by rw [upd_ne n]; exact h
theorem same_new {H : Hp} {p : Addr} (h : H p = none) (o : HO) : Same H (upd H p o) := fun b u q => by rw [upd_ne (ne_of_none q h)]; exact q
theorem but_tup {p : Addr} {K : PySem.W.Frag} {H H' : Hp} {a : Addr} {xs ys : List V} (e : But p H H') (hp : H p = some (.lst ys)) (h : SqT K H a xs) : SqT K H' a xs := by
  rcases h with (h | ⟨o, h⟩) | h
  · exact .inl (.inl (e _ _ (ne_of h hp (by intro z; cases z)) h))
  · exact .inl (.inr ⟨o, e _ _ (ne_of h hp (by intro z; cases z)) h⟩)
  · exact .inr h
theorem same_tup {K : PySem.W.Frag} {H H' : Hp} {a : Addr} {xs : List V} (e : Same H H') (h : SqT K H a xs) : SqT K H' a xs := by
  rcases h with (h | ⟨o, h⟩) | h
  · exact .inl (.inl (e _ _ h))
  · exact .inl (.inr ⟨o, e _ _ h⟩)
  · exact .inr h
/-- the script stays -/
theorem but_seq {p : Addr} {K : PySem.W.Frag} {H H' : Hp} {a : Addr} {xs : List V} (e : But p H H') (n : a ≠ p) (h : SqL K H a xs) : SqL K H' a xs := by
  rcases h with (h | ⟨o, h⟩) | h
  · exact .inl (.inl (e _ _ n h))
  · exact .inl (.inr ⟨o, e _ _ n h⟩)
  · exact .inr h
theorem small {n : Nat} (h : n ≤ 1000) : n ≤ sizeLine := Nat.le_of_lt (small1000 h)
theorem log_lt {i : Int} {n : Nat} (h0 : 0 < n) (h : i.natAbs < 2 ^ n) : i.natAbs.log2 < n := PySem.Flt.log2_lt_of h0 h
theorem divp_small {i j : Int} (hj : 0 < j) (h : j < 2 ^ 8000) : CDivP i j := by
  refine ⟨hj, PyProof.noPylong_of_log2 ?_⟩
  exact Nat.lt_trans (log_lt (n := 8000) (by decide) (by omega)) (by decide)
end Toy
namespace Toy
open PySem PySem.Spec PyProof.Rows L2
theorem ifT {c : Bool} {A B : Prop} (hc : c = true) (h : A) : if c = true then A else B := by rw [if_pos hc]; exact h
theorem ifF {c : Bool} {A B : Prop} (hc : c = false) (h : B) : if c = true then A else B := by rw [hc]; exact iteF h
theorem pj {j : Int} (h : decide ((0 : Int) < j) = true := by decide) : 0 < j := of_decide_eq_true h
theorem sz {xs : List V} (h : Nat.ble xs.length 1000 = true := by rfl) : xs.length ≤ sizeLine := small (Nat.le_of_ble_eq_true h)
theorem but_same {p : Addr} {H H1 H2 : Hp} (n : H p = none) (a : Same H H1) (b : But p H1 H2) : Same H H2 := fun c o h => b c o (ne_of_none h n) (a c o h)
/-- two ways of a value meet -/
theorem ifE {ta tb : TE} {σ : L2.St} {H : Hp} {Q : VK} {b : Bool} (R : V → Hp → Prop) (h : ∀ v H', R v H' → Q v H') (h1 : b = true → ∀ Q' : VK, (∀ v H', R v H' → Q' v H') → ta σ H Q') (h2 : b = false → ∀ Q' : VK, (∀ v H', R v H' → Q' v H') → tb σ H Q') :
    if b = true then ta σ H Q else tb σ H Q := by
  cases b with
  | true => exact iteT (h1 rfl Q h)
  | false => exact iteF (h2 rfl Q h)
theorem mulx {i j : Int} (a b : Nat) (ha : i.natAbs < 2 ^ a) (hb : j.natAbs < 2 ^ b) (h : a + b ≤ 134217728 := by decide) : CMulX i j := mulx_ok ha hb h
end Toy
namespace Toy
open PySem PySem.Spec PyProof.Rows L2
theorem qi {Q : VK} {H : Hp} {a b : Int} (q : Q (.int a) H) (e : a = b) : Q (.int b) H := e ▸ q
end Toy
namespace Toy
open PySem PySem.Spec PyProof.Rows L2
/-- the written part by its letter -/
theorem kk {α : Sort _} {P : α → Prop} {F : PySem.W.Frag → α} {K0 K : PySem.W.Frag} (h : P (F K0)) (e : K0 = K := by rfl) : P (F K) := e ▸ h
def rLen (K : PySem.W.Frag) : List V → Hp → VK → Prop := fun xs H Q => ∃ p ys, xs = [.ref p] ∧ (SqL K H p ys ∨ SqT K H p ys) ∧ Q (.int ys.length) H
theorem lenK {X : Cx} {K : PySem.W.Frag} (e : X.K = K := by rfl) : CallR X (.builtin "len") (rLen K) := by cases e; exact call_len_seq
def rLstOf (K : PySem.W.Frag) : List V → Hp → VK → Prop := fun xs H Q => ∃ p ys, xs = [.ref p] ∧ (SqL K H p ys ∨ SqT K H p ys) ∧ ∀ l, H l = none → Q (.ref l) (upd H l (.lst ys))
theorem lstOfK {X : Cx} {K : PySem.W.Frag} (e : X.K = K := by rfl) : CallR X (.type "list") (rLstOf K) := by cases e; exact call_list_of
def rTupOf (K : PySem.W.Frag) : List V → Hp → VK → Prop := fun xs H Q => ∃ p ys, xs = [.ref p] ∧ ((SqL K H p ys ∧ ∀ l, H l = none → Q (.ref l) (upd H l (.tup ys))) ∨ (SqT K H p ys ∧ Q (.ref p) H))
theorem tupOfK {X : Cx} {K : PySem.W.Frag} (e : X.K = K := by rfl) : CallR X (.type "tuple") (rTupOf K) := by cases e; exact call_tuple_of
theorem dec_ne {α : Type} [DecidableEq α] {a b : α} (h : a = b) : (!decide (a = b)) = false := by rw [decide_eq_true h] <;> rfl
end Toy
namespace Toy
open PySem PySem.Spec PyProof.Rows L2
/-- a tuple of the written part; a tuple that never changes -/
def KTup (K : PySem.W.Frag) (a : Addr) (xs : List V) : Prop := ∃ (o : Obj) (its : Array Value) (n : Nat), K.lookup a = some o ∧ o.cls = .type "tuple" ∧ o.data = .seq its n ∧ its.size ≤ sizeLine ∧ Vals xs its.toList
def TupAt (K : PySem.W.Frag) (H : Hp) (a : Addr) (xs : List V) : Prop := H a = some (.tup xs) ∨ KTup K a xs
theorem TupAt.sq {K : PySem.W.Frag} {H : Hp} {a : Addr} {xs : List V} (h : TupAt K H a xs) : SqT K H a xs := by
  rcases h with h | h
  · exact SqT.of h
  · exact .inr h
theorem TupAt.ty {K : PySem.W.Frag} {H : Hp} {a : Addr} {xs : List V} (h : TupAt K H a xs) : TyX K H (.ref a) (.type "tuple") := by
  rcases h with h | ⟨o, its, n, h1, h2, _⟩
  · exact .base (.tup h)
  · exact .kTuple h1 h2
theorem TupAt.same {K : PySem.W.Frag} {H H' : Hp} {a : Addr} {xs : List V} (e : Same H H') (h : TupAt K H a xs) : TupAt K H' a xs := h.imp (e _ _) id
theorem TupAt.but {K : PySem.W.Frag} {H H' : Hp} {a p : Addr} {xs ys : List V} (e : But p H H') (hp : H p = some (.lst ys)) (h : TupAt K H a xs) : TupAt K H' a xs := h.imp (fun h => e _ _ (ne_of h hp (by intro z; cases z)) h) id
end Toy
namespace Toy
open PySem PySem.Spec PyProof.Rows L2
theorem ints_dp {K : PySem.W.Frag} {H : Hp} : ∀ ns : List Int, DpAll K H (ns.map V.int) (ns.map PyData.int)
  | [] => .nil
  | n :: r => .cons (.int n) (ints_dp r)
theorem ints_sh (ns : List Int) : SeqAt.shaped (.list (ns.map PyData.int)) = true := PySem.W.ke_shaped_ints ns
theorem ints_refl (ns : List Int) : PyData.eqv (.list (ns.map PyData.int)) (.list (ns.map PyData.int)) = true := SeqAt.eqv_refl _ (SeqAt.canLay_of_shaped (ints_sh ns))
theorem lst_dp {K : PySem.W.Frag} {H : Hp} {a : Addr} {ns : List Int} (h : SqL K H a (ns.map V.int)) : Dp K H (.ref a) (.list (ns.map PyData.int)) := .lst h (ints_dp ns)
theorem tupI_dp {K : PySem.W.Frag} {H : Hp} {a : Addr} {ns : List Int} (h : SqT K H a (ns.map V.int)) : Dp K H (.ref a) (.tuple (ns.map PyData.int)) := .tup h (ints_dp ns)
theorem tupI_sh (ns : List Int) : SeqAt.shaped (.tuple (ns.map PyData.int)) = true := ints_sh ns
theorem tupI_refl (ns : List Int) : PyData.eqv (.tuple (ns.map PyData.int)) (.tuple (ns.map PyData.int)) = true := SeqAt.eqv_refl _ (SeqAt.canLay_of_shaped (tupI_sh ns))
theorem cut_map (us : List Int) (lo hi : Option Int) : ∃ ws : List Int, cutV (us.map V.int) lo hi = ws.map V.int ∧ ws.length ≤ us.length ∧ ∀ x ∈ ws, x ∈ us := by
  refine ⟨(us.drop (HT.sIx (us.map V.int).length 0 lo)).take (HT.sIx (us.map V.int).length (us.map V.int).length hi - HT.sIx (us.map V.int).length 0 lo), ?_, ?_, fun x hx => List.mem_of_mem_drop (List.mem_of_mem_take hx)⟩
  · unfold cutV; rw [List.map_take, List.map_drop]
  · rw [List.length_take, List.length_drop]; omega
theorem at_map {us : List Int} {i : Nat} {y : V} (h : (us.map V.int)[i]? = some y) : ∃ x : Int, y = .int x ∧ us[i]? = some x := by
  rw [List.getElem?_map] at h
  cases e : us[i]? with
  | none => rw [e] at h; cases h
  | some x => rw [e] at h; exact ⟨x, (Option.some.inj h).symm, rfl⟩
end Toy
namespace Toy
open PySem PySem.Spec PyProof.Rows L2
/-- the heap in which the script alone stands, unless the text's own part holds it -/
def scriptH (K : PySem.W.Frag) (a : Addr) (o : Obj) (ns : List Int) : Hp := fun c => if (K.lookup a).isNone = true ∧ c = a then some (.frz o (.lst (ns.map V.int))) else none
theorem scriptH_none {K : PySem.W.Frag} {a b : Addr} {o : Obj} {ns : List Int} : scriptH K a o ns b = none ∨ (b = a ∧ K.lookup a = none ∧ scriptH K a o ns b = some (.frz o (.lst (ns.map V.int)))) := by
  unfold scriptH
  by_cases c : (K.lookup a).isNone = true ∧ b = a
  · exact .inr ⟨c.2, Option.isNone_iff_eq_none.mp c.1, if_pos c⟩
  · exact .inl (if_neg c)
theorem law_G {P : Program} {w : World} {K : PySem.W.Frag} {mg mb : Str → Option Value} {k : Nat} {fa a : Addr} {fd : FuncData} {x : Str} {sp : Sp} {s : Shared} {vs : List Value} {ns : List Int}
    (KX : K.In s.heap) (hns : s.heap.Ns mainGlobals mg) (hb : s.heap.Ns builtinsNs mb) (hbb : ∀ x : Str, x ≠ "__name__" → mb x = bootBuiltins x) (hlim : s.heap.NoLimit) (hg : s.gens = #[])
    (ha : s.heap.get? a = some { cls := .type "list", data := .seq vs.toArray }) (hi : IntsAre vs ns) (hl : ns.length ≤ sizeLine) (hr : Room k PySem.callerA)
    (F : ∀ base : Heap, K.In base → base.Ns mainGlobals mg → FnG P w K mg base CX0 k fa fd [x] sp) (hbind : ∀ (s : Shared) (u : Value), BindsTo s fd ⟨[u], []⟩ [(x, u)])
    (hsp : ∀ H : Hp, SqL K H a (ns.map V.int) → sp [.ref a] H (fun v _ => v = .bl true) fun _ _ _ => False) :
    codeAny (model P w) PySem.callerA (.call (.ref fa) ⟨[.ref a], []⟩) (fun r s' => r = .ok (.ret (.bool true)) ∧ OldK s.heap s'.heap ∧ s'.os = s.os ∧ AllBare s'.gens) s := by
  let H : Hp := scriptH K a { cls := .type "list", data := .seq vs.toArray } ns
  have hH : ∀ b, H b = none ∨ (b = a ∧ K.lookup a = none ∧ H b = some (.frz { cls := .type "list", data := .seq vs.toArray } (.lst (ns.map V.int)))) := fun b => scriptH_none
  have rv := vals_ints hi
  have hok : HOk P w H s.heap := by
    intro b u e
    rcases hH b with z | ⟨rfl, _, z⟩
    · rw [z] at e; cases e
    · rw [z] at e
      cases e
      exact ⟨ha, by rw [List.length_map]; exact hl, vs, _, rv, ha⟩
  have hS : SqL K H a (ns.map V.int) := by
    cases q : K.lookup a with
    | none => exact .inl (.inr ⟨_, show scriptH K a _ ns a = _ from if_pos ⟨by rw [q] <;> rfl, rfl⟩⟩)
    | some o =>
      have e := KX a o q
      rw [ha] at e
      cases e
      exact .inr ⟨_, vs.toArray, _, q, rfl, rfl, rfl, by rw [List.size_toArray, hi.length]; exact hl, by simpa using rv⟩
  -- what is no list is not the script
  have notA : ∀ {b : Addr} {o : Obj} {es : Array DictEntry} {ep : Nat}, s.heap.get? b = some o → o.data = .dict es ep → H b = none := by
    intro b o es ep e d
    rcases hH b with z | ⟨rfl, _, _⟩
    · exact z
    · rw [ha] at e
      cases e
      cases (show Data.seq vs.toArray _ = Data.dict es ep from d)
  have ns' : ∀ {b : Addr} {m : Str → Option Value}, s.heap.Ns b m → (hidT s.heap H).Ns b m := by
    rintro b m ⟨o, es, ep, e, d, r⟩
    exact ⟨o, es, ep, hidT_get e (notA e d), d, r⟩
  have kin' : K.In (hidT s.heap H) := by
    intro b o e
    refine hidT_get (KX b o e) ?_
    rcases hH b with z | ⟨rfl, q, _⟩
    · exact z
    · rw [q] at e; cases e
  have md : Mod K mg (hidT s.heap H) := ⟨kin', ns' hns, ⟨mb, ns' hb, hbb⟩, hlim.imp fun _ z => ⟨ns' z.1, z.2⟩⟩
  have e0 : Env0 P w K mg (hidT s.heap H) PySem.callerA [] s H := ⟨rfl, md, fun _ _ z => of_hidT z, Nat.le_of_eq (hidT_size _ _), trivial, (by intro b z; cases z), hok, .of_eq hg⟩
  refine codeAny_mono ((F _ kin' (ns' hns)).go (us := [.ref a]) (vs := [.ref a]) ⟨hr, rfl⟩ e0 (hbind s (.ref a)) (.cons rfl .nil) (hsp H hS)) ?_
  rintro (e | fl) s' q
  · exact q.elim
  match fl, q with
  | .ret u, ⟨v, H', os, bare, un, ok', r', q⟩ =>
    have q' : v = .bl true := q
    subst q'
    obtain rfl : u = Value.bool true := r'
    refine ⟨rfl, OldK.of_keep fun b o e => ?_, os, bare⟩
    rcases hH b with z | ⟨_, _, z⟩
    · exact un.keep b o e z (by intro y; cases y) (by intro y; cases y)
    · have z1 := (hok b _ z).1
      have z2 := (ok' b _ (un.frzs b _ _ z)).1
      rw [e] at z1
      cases z1
      exact z2
theorem walk_G {l : PySem.W.OpenLaw} {n k : Nat} {q : Program} {loose : List Str} {XP : (Str → Option Value) → Heap → Prop} {YP : World → Heap → Prop} {d : DefRec} {K : Params → PySem.W.Frag} {sp : PySem.W.Frag → Sp} {x : Str}
    (hn : l.most = some n) (hn2 : n ≤ sizeLine) (hdf : d.params.defaults = []) (hr : Room k PySem.callerA) (hY : ∀ (w : World) (h : Heap), YP w h → (K w.params).In h)
    (F : ∀ (w : World) (mg : Str → Option Value) (fa : Addr) (h : Heap), (K w.params).In h → h.Ns mainGlobals mg → mg d.name = some (.ref fa) →
      ∃ fd : FuncData, (∀ (s : Shared) (u : Value), BindsTo s fd ⟨[u], []⟩ [(x, u)]) ∧ ∀ base : Heap, (K w.params).In base → base.Ns mainGlobals mg → FnG l.prog w (K w.params) mg base CX0 k fa fd [x] (sp (K w.params)))
    (hsp : ∀ (K : PySem.W.Frag) (H : Hp) (a : Addr) (ns : List Int), ns.length ≤ n → SqL K H a (ns.map V.int) → sp K [.ref a] H (fun v _ => v = .bl true) fun _ _ _ => False) :
    PySem.W.WalkO q loose XP YP l.row.toRowW d [] (fun f vs => PySem.call f vs) :=
  Att.attach_call hn hdf fun w s0 s1 mg mb fa o pm cd doc a vs ns G Y ho hd hcd hmg hobj hints hlen hg => by
    have KX := hY w _ Y
    obtain ⟨fd, hbd, hF⟩ := F w mg fa _ KX G.T.g hmg
    exact law_G KX G.T.g G.T.b G.T.builtins G.T.nolimit hg hobj hints (Nat.le_trans hlen hn2) hr hF hbd fun H hS => hsp _ H a ns hlen hS
end Toy
namespace Toy
open PySem PySem.Spec PyProof.Rows L2
/-! ### how long a shown datum is -/
mutual
def cst : PyData → Nat
  | .none => 5
  | .bool _ => 5
  | .int _ => 1921
  | .str x => (reprText x).length
  | .list xs => csts xs + 4
  | .tuple xs => csts xs + 4
  | .dict _ => 0
def csts : List PyData → Nat
  | [] => 0
  | x :: xs => cst x + 4 + csts xs
end
theorem tupT_len (ts : List Str) : (tupleText ts).length ≤ piled ts + 4 := by
  unfold tupleText
  rw [strLen_append, strLen_append]
  have e1 : ((("(" : String) : Str)).length = 1 := rfl
  have e3 : (((if ts.length == 1 then ",)" else ")" : String) : Str)).length ≤ 2 := by split <;> decide +kernel
  by_cases h : ts = []
  · subst h; decide +kernel
  · have := join_length_add ts h; omega
theorem txtFrom_len : ∀ (ts : List Str) (k : Nat) (acc : Str), (textFrom k acc ts).length ≤ acc.length + piled ts
  | [], k, acc => Nat.le_add_right _ _
  | t :: r, k, acc => by
    have h := txtFrom_len r (k + 1) (acc ++ (if k > 0 then ", " else "" : String) ++ t)
    have e : (acc ++ (if k > 0 then ", " else "" : String) ++ t).length = acc.length + (if k > 0 then 2 else 0) + t.length := by
      rw [strLen_append, strLen_append]
      split <;> rfl
    rw [e] at h
    rw [piled_cons]
    have h2 : (textFrom k acc (t :: r)).length = (textFrom (k + 1) (acc ++ (if k > 0 then ", " else "" : String) ++ t) r).length := rfl
    rw [h2]
    have e2 : (if k > 0 then 2 else 0) ≤ 2 := by split <;> omega
    omega
theorem lstT_len (ts : List Str) : (listText ts).length ≤ piled ts + 4 := by
  unfold listText
  rw [strLen_append]
  have h := txtFrom_len ts 0 "["
  have e1 : ((("[" : String) : Str)).length = 1 := rfl
  have e2 : ((("]" : String) : Str)).length = 1 := rfl
  omega
mutual
theorem shown_le : ∀ d : PyData, d.showable = true → d.hasDict = false → d.shown.length ≤ cst d
  | .none, _, _ => by show (("None" : String) : Str).length ≤ 5; decide +kernel
  | .bool b, _, _ => by cases b <;> (show _ ≤ 5; decide +kernel)
  | .int i, h, _ => PyProof.Rows.int_text_len_1921 (of_decide_eq_true (by simpa [PyData.showable] using h))
  | .str x, _, _ => Nat.le_refl _
  | .list ds, h, g => by
    have h1 := showns_le ds (by simpa [PyData.showable] using h) (by simpa [PyData.hasDict] using g)
    have h2 := lstT_len (PyData.shownAll ds)
    show (listText (PyData.shownAll ds)).length ≤ csts ds + 4
    omega
  | .tuple ds, h, g => by
    have h1 := showns_le ds (by simpa [PyData.showable] using h) (by simpa [PyData.hasDict] using g)
    have h2 := tupT_len (PyData.shownAll ds)
    show (tupleText (PyData.shownAll ds)).length ≤ csts ds + 4
    omega
  | .dict _, _, g => by simp [PyData.hasDict] at g
theorem showns_le : ∀ ds : List PyData, PyData.showableAll ds = true → PyData.hasDictAll ds = false → piled (PyData.shownAll ds) ≤ csts ds
  | [], _, _ => Nat.le_refl _
  | d :: ds, h, g => by
    have h1 := shown_le d (by simp [PyData.showableAll] at h; exact h.1) (by simp [PyData.hasDictAll] at g; exact g.1)
    have h2 := showns_le ds (by simp [PyData.showableAll] at h; exact h.2) (by simp [PyData.hasDictAll] at g; exact g.2)
    show piled (d.shown :: PyData.shownAll ds) ≤ _
    rw [piled_cons]
    show _ ≤ cst d + 4 + csts ds
    omega
end
theorem shown_sz {d : PyData} (h : d.showable = true) (g : d.hasDict = false) (c : cst d ≤ 10000000) : d.shown.length ≤ sizeLine :=
  Nat.le_trans (shown_le d h g) (Nat.le_trans c (by decide))
end Toy
namespace Toy
open PySem PySem.Spec PyProof.Rows L2
/-- a list of ints grown by a part of another one -/
theorem ext_cut {L z : Addr} {ws es : List Int} {lo hi : Option Int} {H : Hp} {R : VK} (hL : H L = some (.lst (ws.map V.int))) (hz : H z = some (.lst (cutV (es.map V.int) lo hi))) (hs : ws.length + es.length ≤ 1000)
    (q : ∀ us : List Int, us.length ≤ es.length → (∀ x ∈ us, x ∈ es) → R .non (upd H L (.lst ((ws ++ us).map V.int)))) : rExtend (.ref L) [.ref z] H R := by
  obtain ⟨us, e, h1, h2⟩ := cut_map es lo hi
  rw [e] at hz
  refine ⟨L, z, _, _, rfl, rfl, hL, hz, small (by rw [List.length_map, List.length_map]; omega), ?_⟩
  have := q us h1 h2
  rw [List.map_append] at this
  exact this
theorem rep_len {n : Nat} : ((List.replicate n true).map V.bl).length = n := by rw [List.length_map, List.length_replicate]
theorem rep_snoc {n : Nat} : (List.replicate n true).map V.bl ++ [V.bl true] = (List.replicate (n + 1) true).map V.bl := by rw [List.replicate_succ', List.map_append] <;> rfl
theorem rep_all (n : Nat) : (List.replicate n true).all id = true := by rw [List.all_eq_true]; intro x hx; rw [List.mem_replicate] at hx; exact hx.2
theorem ixn {n j : Nat} (hj : j < n) : ixN n (j : Int) = some j := by
  unfold ixN
  rw [if_pos (by omega), if_pos (by omega)]
  exact congrArg some (Int.toNat_natCast j)
theorem dec_self (a : V) : decide (a = a) = true := decide_eq_true rfl
end Toy
namespace Toy
open PySem PySem.Spec PyProof.Rows L2
/-- a comprehension within a comprehension -/
theorem relabel_kept {env : Env} : ∀ {names : List (Str × NameKind)} {x : Str}, names.lookup x = some .cell ∨ names.lookup x = some .free →
    (names.map fun (n, k) => if (k == NameKind.free && env.scope.kind == .function && env.kindOf n == some .cell) then (n, NameKind.cell) else (n, k)).lookup x = some .cell ∨
    (names.map fun (n, k) => if (k == NameKind.free && env.scope.kind == .function && env.kindOf n == some .cell) then (n, NameKind.cell) else (n, k)).lookup x = some .free
  | [], _, h => by simp at h
  | (n, k) :: r, x, h => by
    have ih := @relabel_kept env r x
    show List.lookup x ((if (k == NameKind.free && env.scope.kind == .function && env.kindOf n == some .cell) = true then (n, NameKind.cell) else (n, k)) :: _) = _ ∨ List.lookup x ((if (k == NameKind.free && env.scope.kind == .function && env.kindOf n == some .cell) = true then (n, NameKind.cell) else (n, k)) :: _) = _
    cases hx : x == n with
    | true =>
      simp only [List.lookup_cons, hx] at h
      by_cases hc : (k == NameKind.free && env.scope.kind == .function && env.kindOf n == some .cell) = true
      · rw [if_pos hc]; exact .inl (by simp [List.lookup_cons, hx])
      · rw [if_neg hc]; simp only [List.lookup_cons, hx]; exact h
    | false =>
      simp only [List.lookup_cons, hx] at h
      by_cases hc : (k == NameKind.free && env.scope.kind == .function && env.kindOf n == some .cell) = true
      · rw [if_pos hc]; simp only [List.lookup_cons, hx]; exact ih h
      · rw [if_neg hc]; simp only [List.lookup_cons, hx]; exact ih h
theorem blkOk_nest {X : Cx} {s : Shared} {H : Hp} {scope1 scope : Scope} {cl : List (Str × Addr)} {C : Addr} {env : Env} {fp : List Addr} {own : List (Str × Nat)} {N : List Str} (hN : X.N = N) (h : blkC N scope1 scope own = true) :
    BlkOk (X.blk s H scope1 (compEnvC scope1 cl C env) fp).N (X.blk s H scope1 (compEnvC scope1 cl C env) fp).env.scope scope own := by
  subst hN
  obtain ⟨h1, h2, h3, h4, h5⟩ := blkOk_by h
  exact ⟨h1, h2, h3, fun y hy e => relabel_kept (h4 y hy e), h5⟩
end Toy
namespace Toy
open PySem PySem.Spec PyProof.Rows L2
/-! ### own classes -/
/-- where a name's class stands -/
def cAt (mg : Str → Option Value) (x : Str) : Addr := match mg x with | some (.ref C) => C | _ => 0
theorem cAt_eq {mg : Str → Option Value} {x : Str} {C : Addr} (h : mg x = some (.ref C)) : cAt mg x = C := by unfold cAt; rw [h]
structure ClsF (K : PySem.W.Frag) (mg : Str → Option Value) (x : Str) (fs : List Str) : Prop where
  mg_ : mg x = some (.ref (cAt mg x))
  cl : Cls K (cAt mg x)
  no : ∀ f ∈ fs, NoAttr K (cAt mg x) f
theorem ClsF.of {K : PySem.W.Frag} {mg : Str → Option Value} {x : Str} {C : Addr} {fs : List Str} (m : mg x = some (.ref C)) (c : Cls K C) (n : ∀ f ∈ fs, NoAttr K C f) : ClsF K mg x fs := by
  have e := cAt_eq m
  exact ⟨by rw [e]; exact m, by rw [e]; exact c, by rw [e]; exact n⟩
/-- a method, by its class -/
structure DfM (K : PySem.W.Frag) (C : Addr) (m q : Str) (st : Stmt) (ps : List Str) : Prop where
  ex : ∃ f fd, Fun K m q st f fd ∧ Meth K C m f ∧ Binds K fd ps []
theorem DfM.of {K : PySem.W.Frag} {mg : Str → Option Value} {x m q : Str} {st : Stmt} {ps : List Str} {f C : Addr} {oc : Value} {od an : Option Addr} {osl : Array (Option Value)} {kV doc pm cdv ct : Value} (hC : mg x = some (.ref C))
    (a : PySem.W.findIn K (.ref C) m = some (some (.ref f))) (i : PySem.W.isFn K (.ref f) = true)
    (l : K.lookup f = some ⟨oc, od, .func (PySem.W.fnOf m q (defArgs st) (defBody st) (defScope st) .none kV doc pm an cdv ct), osl⟩) (c : PySem.W.codeIn K cdv q = true) (k : PySem.W.keepIn K (.ref f) = true)
    (h : ∀ (kV doc pm : Value) (an : Option Addr) (cdv ct : Value) (us : List Value), us.length = ps.length → bindArgs (PySem.W.fnOf m q (defArgs st) (defBody st) (defScope st) .none kV doc pm an cdv ct) ⟨us, []⟩ = pure (ps.zip us)) : DfM K (cAt mg x) m q st ps := by
  rw [cAt_eq hC]
  exact ⟨_, _, fun_mk l c k, ⟨a, i, k⟩, (fun_mk l c k).binds h⟩
structure DnM (P : Program) (w : World) (K : PySem.W.Frag) (mg : Str → Option Value) (base : Heap) (C : Addr) (k : Nat) (m : Str) (ps : List Str) (sp : Sp) : Prop where
  ex : ∃ f fd, FnG P w K mg base CX0 k f fd ps sp ∧ Meth K C m f ∧ Binds K fd ps []
theorem DfM.ok {P : Program} {w : World} {K : PySem.W.Frag} {mg : Str → Option Value} {base : Heap} {C : Addr} {m q : Str} {st : Stmt} {ps : List Str} {k : Nat} {sp : Sp} (D : DfM K C m q st ps)
    (h : ∀ f fd, Fun K m q st f fd → FnG P w K mg base CX0 k f fd ps sp) : DnM P w K mg base C k m ps sp := by
  obtain ⟨f, fd, F, mt, b⟩ := D.ex
  exact ⟨f, fd, h f fd F, mt, b⟩
/-- the maker of a class -/
structure DfI (K : PySem.W.Frag) (C : Addr) (q : Str) (st : Stmt) (ps : List Str) : Prop where
  ex : ∃ f fd, Fun K "__init__" q st f fd ∧ Mk K C f ∧ Binds K fd ps []
theorem DfI.of {K : PySem.W.Frag} {mg : Str → Option Value} {x q : Str} {st : Stmt} {ps : List Str} {f C : Addr} {oc : Value} {od an : Option Addr} {osl : Array (Option Value)} {kV doc pm cdv ct : Value} (hC : mg x = some (.ref C))
    (a : PySem.W.findIn K (.ref C) "__init__" = some (some (.ref f))) (i : PySem.W.isFn K (.ref f) = true)
    (l : K.lookup f = some ⟨oc, od, .func (PySem.W.fnOf "__init__" q (defArgs st) (defBody st) (defScope st) .none kV doc pm an cdv ct), osl⟩) (c : PySem.W.codeIn K cdv q = true) (k : PySem.W.keepIn K (.ref f) = true)
    (mk : PySem.W.makesIn K C = true) (kc : PySem.W.keepIn K (.ref C) = true)
    (h : ∀ (kV doc pm : Value) (an : Option Addr) (cdv ct : Value) (us : List Value), us.length = ps.length → bindArgs (PySem.W.fnOf "__init__" q (defArgs st) (defBody st) (defScope st) .none kV doc pm an cdv ct) ⟨us, []⟩ = pure (ps.zip us)) : DfI K (cAt mg x) q st ps := by
  rw [cAt_eq hC]
  exact ⟨_, _, fun_mk l c k, ⟨mk, a, i, kc⟩, (fun_mk l c k).binds h⟩
structure DnI (P : Program) (w : World) (K : PySem.W.Frag) (mg : Str → Option Value) (base : Heap) (C : Addr) (k : Nat) (ps : List Str) (sp : Sp) : Prop where
  ex : ∃ f fd, FnG P w K mg base CX0 k f fd ps sp ∧ Mk K C f ∧ Binds K fd ps []
theorem DfI.ok {P : Program} {w : World} {K : PySem.W.Frag} {mg : Str → Option Value} {base : Heap} {C : Addr} {q : Str} {st : Stmt} {ps : List Str} {k : Nat} {sp : Sp} (D : DfI K C q st ps)
    (h : ∀ f fd, Fun K "__init__" q st f fd → FnG P w K mg base CX0 k f fd ps sp) : DnI P w K mg base C k ps sp := by
  obtain ⟨f, fd, F, mt, b⟩ := D.ex
  exact ⟨f, fd, h f fd F, mt, b⟩
theorem RoomG.make {k : Nat} {A : Around} (r : RoomG (k + 1) A) (C : Addr) (us : List Value) (kw : List (Str × Value)) : RoomG k (A.under (.builtin "type.__call__" ⟨.ref C :: us, kw⟩)) :=
  ⟨r.room.make C us kw, r.idle⟩
section
variable {X : Cx} {k : Nat} {C : Addr} {ps : List Str} {sp : Sp} {x m : Str} {p pos apos : Pos} {e o : Expr} {es : List Expr} {ta : TE} {t : TA}
theorem pe_mG {pl : Sem Bool} (D : DnM X.prog X.w X.K X.mg X.base C k m ps sp) (c : Cls X.K C) (hr : RoomG k X.A) (he : PE X o ta) (ha : PA X (e :: es) t)
    (hst : starEach (e :: es) X.env = (false, eval e X.env) :: starEach es X.env := by rfl) (hpl : (backTo pos (starEach es X.env)).any (·.1) = false := by rfl)
    (ht : eval (.Call (.Attribute o m apos) (e :: es) [] pos) X.env = (do
      let ov ← eval o X.env
      standAt apos.atName
      let (f, first) ← holding [ov] (getMethod ov m pl)
      callWith pos f first (backTo pos (starEach (e :: es) X.env)) (backToKw pos (keywordEach [] X.env))) := by rfl) :
    PE X (.Call (.Attribute o m apos) (e :: es) [] pos) (tMeth C m sp [] E0 ta t) := by
  obtain ⟨f, fd, F, hm, hb⟩ := D.ex
  refine ⟨fun pins s σ H Q I h => ?_⟩
  refine PySem.W.methodCall_KW (pl := pl) (thn (he.run pins s σ H _ I h) fun u s1 ⟨x, H1, I1, rx, a, dx, fs, ex, ea, l, q⟩ => ?_) ht
  subst ex
  obtain rfl : u = Value.ref a := rx
  refine getmeth_ok I1 ea c hm l ?_
  refine PySem.W.callWith_K (first := [.ref a]) (h₀ := X.base) I.ok.mod.kin hm.kp (thn (ha.run pos pins s1 σ H1 _ I1 q) fun us s2 ⟨vs, H2, I2, r, q2⟩ => ⟨I2.kIn, ?_⟩) hst hpl
  have q' : sp (.ref a :: vs) H2 Q E0 := by
    have z : sp (.ref a :: (vs ++ [])) H2 Q E0 := q2
    rw [List.append_nil] at z
    exact z
  exact run_G (us := .ref a :: us) (vs := .ref a :: vs) F hr hb (fun _ _ z => z.elim) I2 (.cons rfl r) q'
theorem pe_mG0 {pl : Sem Bool} (D : DnM X.prog X.w X.K X.mg X.base C k m ps sp) (c : Cls X.K C) (hr : RoomG k X.A) (he : PE X o ta)
    (ht : eval (.Call (.Attribute o m apos) [] [] pos) X.env = (do
      let ov ← eval o X.env
      standAt apos.atName
      let (f, first) ← holding [ov] (getMethod ov m pl)
      callWith pos f first (backTo pos (starEach [] X.env)) (backToKw pos (keywordEach [] X.env))) := by rfl) :
    PE X (.Call (.Attribute o m apos) [] [] pos) (tMeth C m sp [] E0 ta tNil) := by
  obtain ⟨f, fd, F, hm, hb⟩ := D.ex
  refine ⟨fun pins s σ H Q I h => ?_⟩
  refine PySem.W.methodCall_KW (pl := pl) (thn (he.run pins s σ H _ I h) fun u s1 ⟨x, H1, I1, rx, a, dx, fs, ex, ea, l, q⟩ => ?_) ht
  subst ex
  obtain rfl : u = Value.ref a := rx
  refine getmeth_ok I1 ea c hm l ?_
  exact PySem.W.callWith_K0 (first := [.ref a]) I1.kIn hm.kp (run_G (us := [.ref a]) (vs := [.ref a]) F hr hb (fun _ _ z => z.elim) I1 (.cons rfl .nil) q)
theorem run_mkG {pins : List (Addr × Obj)} {σ : L2.St} {H : Hp} {s : Shared} {Q : VK} {us : List Value} {vs : List V} {f : Addr} {fd : FuncData} (M : Mk X.K C f) (F : FnG X.prog X.w X.K X.mg X.base CX0 k f fd ps sp) (hr : RoomG (k + 1) X.A) (hb : Binds X.K fd ps [])
    (I : Inv X pins σ H s) (r : Vals vs us)
    (h : ∀ x dx, H x = none → H dx = none → dx ≠ x → sp (.ref x :: vs) (upd (upd H dx (.own x)) x (.ins C dx [])) (fun v H2 => v = .non ∧ Q (.ref x) H2) E0) :
    wpAny (model X.prog X.w) X.A (call (.ref C) us) (EP X pins σ Q) X.xe s := by
  have hq := h (s.heap.objs.size + 1) s.heap.objs.size (I.hok.fresh (Nat.le_succ _)) (I.hok.fresh (Nat.le_refl _)) (Nat.ne_of_lt (Nat.lt_succ_self _))
  have I2 := Inv.made (C := C) I
  have r2 : Vals (V.ref (s.heap.objs.size + 1) :: vs) (Value.ref (s.heap.objs.size + 1) :: us) := .cons rfl r
  have hl : (Value.ref (s.heap.objs.size + 1) :: us).length = ps.length := by
    rw [← r2.length]
    exact F.arity _ _ _ _ hq
  have b := hb { s with heap := _ } (Value.ref (s.heap.objs.size + 1) :: us) I2.kIn (by rw [List.append_nil]; exact hl)
  rw [List.append_nil] at b
  refine wpAny_call (make_map (f := f) I.kIn M.makes M.init (beq_iff_eq.mp M.fn) (codeAny_mono (F.go (hr.make C us []) (I2.env0.make C us []) b r2 hq) fun r s' hq' => ?_))
  cases r with
  | error e => exact hq'.elim
  | ok fl =>
    match fl, hq' with
    | .ret u, hq' =>
      obtain ⟨v, H', I3, rv, ev, q3⟩ := I2.after hq'
      subst ev
      exact ⟨rv, ⟨V.ref (s.heap.objs.size + 1), H', I3, rfl, q3⟩⟩
theorem pe_mkG (D : DnI X.prog X.w X.K X.mg X.base C k ps sp) (hr : RoomG (k + 1) X.A) (hg : Gl X x) (hm : X.mg x = some (.ref C)) (ha : PA X (e :: es) t) (hdb : (x == ("__debug__" : Str)) = false := by decide)
    (he : starEach (e :: es) X.env = (false, eval e X.env) :: starEach es X.env := by rfl) (hpl : (backTo pos (starEach es X.env)).any (·.1) = false := by rfl) :
    PE X (.Call (.Name x p) (e :: es) [] pos) (tMake C sp [] E0 t) := by
  obtain ⟨f, fd, F, M, hb⟩ := D.ex
  refine ⟨fun pins s σ H Q I h => ?_⟩
  refine wpAny_Call_Name_kw (ld_glob I hg hm ?_ hdb)
  refine PySem.W.callWith_K (h₀ := X.base) I.ok.mod.kin M.kp (thn (ha.run pos pins s σ H _ I h) fun us s1 ⟨vs, H1, I1, r, q⟩ => ⟨I1.kIn, ?_⟩) he hpl
  exact run_mkG M F hr hb I1 r fun x dx h1 h2 h3 => by
    have z := q x dx h1 h2 h3
    rw [List.append_nil] at z
    exact z
/-- o.f, as a target -/
def gFld (K : PySem.W.Frag) (to : TE) (f : Str) : TG := fun v σ H Q => to σ H fun x H1 => ∃ a C dx fs, x = .ref a ∧ H1 a = some (.ins C dx fs) ∧ Cls K C ∧ NoAttr K C f ∧ fs.length < 1000 ∧ Q σ (upd H1 a (.ins C dx (putF f v fs)))
theorem pg_fld {f : Str} {to : TE} (ho : PE X o to) : PG X (.Attribute o f pos) (gFld X.K to f) := by
  refine ⟨fun pins s σ H v u Q I r h => ?_⟩
  rw [assign_Attribute]
  refine wpAny_bind (wpAny_holding (thn (ho.run pins s σ H _ I h) fun ov s1 ⟨x, H1, I1, rx, a, C, dx, fs, ex, ea, c, n, l, q⟩ => ?_))
  subst ex
  obtain rfl : ov = Value.ref a := rx
  refine wpAny_bind (wpAny_standAt ?_)
  refine wpAny_bind (wpAny_holding (setattr_ok I1 ea c n l r fun s2 I2 => ?_))
  exact wpAny_release ⟨σ, _, I2, q⟩
end
end Toy
namespace Toy
open PySem PySem.Spec PyProof.Rows L2
theorem hp_same {H H' : Hp} {a : Addr} {o : HO} (s : Same H H') (h : H a = some o) : H' a = some o := s _ _ h
theorem hp_at {H H' : Hp} {a : Addr} {o : HO} (h : H a = some o) (s : Same H H') : H' a = some o := s _ _ h
theorem sql_at {K : PySem.W.Frag} {H H' : Hp} {p : Addr} {xs : List V} (h : SqL K H p xs) (s : Same H H') : SqL K H' p xs := s.seq h
theorem sqt_at {K : PySem.W.Frag} {H H' : Hp} {a : Addr} {xs : List V} (h : SqT K H a xs) (s : Same H H') : SqT K H' a xs := same_tup s h
theorem same_bk {H M H' : Hp} (b : Same M H') (a : Same H M) : Same H H' := a.trans b
theorem hp_new {H : Hp} {l a : Addr} {o u : HO} (n : H l = none) (h : H a = some o) : upd H l u a = some o := same_new n u _ _ h
theorem s1k : 1000 ≤ sizeLine := by decide
theorem lk1000 {n : Nat} (h : n ≤ 1000) : n ≤ sizeLine := Nat.le_trans h s1k
theorem lt1000 {n : Nat} (h : n < 1000) : n < sizeLine := Nat.lt_of_lt_of_le h s1k
theorem tyL {K : PySem.W.Frag} {H : Hp} {p : Addr} {xs : List V} (h : H p = some (.lst xs)) : tyV K "list" (.ref p) H := .inl ⟨rfl, xs, SqL.of h⟩
theorem sq_same {K : PySem.W.Frag} {H H' : Hp} {p : Addr} {xs : List V} (s : Same H H') (h : SqL K H p xs) : SqL K H' p xs := s.seq h
theorem newS {H H' : Hp} {l : Addr} {o : HO} (e : upd H l o = H') (n : H l = none) : Same H H' := e ▸ same_new n o
theorem newO {H H' : Hp} {l : Addr} {o : HO} (e : upd H l o = H') : H' l = some o := e ▸ upd_same
end Toy
namespace Toy
open PySem L2
def top (i : Nat) : Stmt := PySem.Challenge.pw_joinedasks_k99_whole_loads_and_settings.main.body.getD i (.Pass ⟨0, 0, 0, 0⟩)
abbrev s_is_whole : Stmt := top 9
theorem sc_is_whole : FnScope ["thing"] ["thing"] (defScope s_is_whole) := ⟨rfl, rfl, rfl, by decide +kernel, rfl, by decide +kernel, by decide +kernel⟩
abbrev s_is_within : Stmt := top 10
theorem sc_is_within : FnScope ["thing", "least", "most"] ["thing", "least", "most"] (defScope s_is_within) := ⟨rfl, rfl, rfl, by decide +kernel, rfl, by decide +kernel, by decide +kernel⟩
abbrev s_is_row_of : Stmt := top 11
theorem sc_is_row_of : FnScope ["thing", "many"] ["thing", "many"] (defScope s_is_row_of) := ⟨rfl, rfl, rfl, by decide +kernel, rfl, by decide +kernel, by decide +kernel⟩
abbrev s_want_net : Stmt := top 12
theorem sc_want_net : FnScope ["k", "deepest"] ["k", "deepest"] (defScope s_want_net) := ⟨rfl, rfl, rfl, by decide +kernel, rfl, by decide +kernel, by decide +kernel⟩
abbrev s_is_line : Stmt := top 14
theorem sc_is_line : FnScope ["k", "thing"] ["k", "thing"] (defScope s_is_line) := ⟨rfl, rfl, rfl, by decide +kernel, rfl, by decide +kernel, by decide +kernel⟩
abbrev s_want_hand : Stmt := top 15
theorem sc_want_hand : FnScope ["k", "thing"] ["k", "thing"] (defScope s_want_hand) := ⟨rfl, rfl, rfl, by decide +kernel, rfl, by decide +kernel, by decide +kernel⟩
abbrev s_want_side : Stmt := top 16
theorem sc_want_side : FnScope ["k", "thing"] ["k", "thing"] (defScope s_want_side) := ⟨rfl, rfl, rfl, by decide +kernel, rfl, by decide +kernel, by decide +kernel⟩
abbrev s_line_on_way : Stmt := top 17
theorem sc_line_on_way : FnScope ["k", "hand", "goal", "level", "left"] ["k", "hand", "goal", "level"] (defScope s_line_on_way) := ⟨rfl, rfl, rfl, by decide +kernel, rfl, by decide +kernel, by decide +kernel⟩
abbrev s_figure_in : Stmt := top 18
theorem sc_figure_in : FnScope ["k", "line", "stage"] ["k", "line", "stage"] (defScope s_figure_in) := ⟨rfl, rfl, rfl, by decide +kernel, rfl, by decide +kernel, by decide +kernel⟩
abbrev s_number_without : Stmt := top 19
theorem sc_number_without : FnScope ["k", "line", "stage", "left"] ["k", "line", "stage"] (defScope s_number_without) := ⟨rfl, rfl, rfl, by decide +kernel, rfl, by decide +kernel, by decide +kernel⟩
abbrev s_way : Stmt := top 20
theorem sc_way : FnScope ["k", "hand", "side", "level"] ["k", "hand", "side"] (defScope s_way) := ⟨rfl, rfl, rfl, by decide +kernel, rfl, by decide +kernel, by decide +kernel⟩
abbrev s_want_pairs : Stmt := top 21
theorem sc_want_pairs : FnScope ["k", "pairs", "hand", "goal", "one"] ["k", "pairs"] (defScope s_want_pairs) := ⟨rfl, rfl, rfl, by decide +kernel, rfl, by decide +kernel, by decide +kernel⟩
abbrev s_shared_line : Stmt := top 22
theorem sc_shared_line : FnScope ["k", "pairs", "level", "lines", "found", "hand", "goal", "line"] ["k", "pairs"] (defScope s_shared_line) := ⟨rfl, rfl, rfl, by decide +kernel, rfl, by decide +kernel, by decide +kernel⟩
abbrev s_first_shared : Stmt := top 23
theorem sc_first_shared : FnScope ["k", "pairs"] ["k", "pairs"] (defScope s_first_shared) := ⟨rfl, rfl, rfl, by decide +kernel, rfl, by decide +kernel, by decide +kernel⟩
abbrev s_is_end : Stmt := top 25
theorem sc_is_end : FnScope ["thing"] ["thing"] (defScope s_is_end) := ⟨rfl, rfl, rfl, by decide +kernel, rfl, by decide +kernel, by decide +kernel⟩
abbrev s_is_deed : Stmt := top 26
theorem sc_is_deed : FnScope ["thing", "add", "low", "high"] ["thing"] (defScope s_is_deed) := ⟨rfl, rfl, rfl, by decide +kernel, rfl, by decide +kernel, by decide +kernel⟩
abbrev s_put_through : Stmt := top 27
theorem sc_put_through : FnScope ["deed", "value", "add", "low", "high", "found"] ["deed", "value"] (defScope s_put_through) := ⟨rfl, rfl, rfl, by decide +kernel, rfl, by decide +kernel, by decide +kernel⟩
abbrev s_whole_deed : Stmt := top 28
theorem sc_whole_deed : FnScope ["add", "low", "high"] ["add", "low", "high"] (defScope s_whole_deed) := ⟨rfl, rfl, rfl, by decide +kernel, rfl, by decide +kernel, by decide +kernel⟩
abbrev s_one_behind : Stmt := top 29
theorem sc_one_behind : FnScope ["one", "other", "low", "high"] ["one", "other"] (defScope s_one_behind) := ⟨rfl, rfl, rfl, by decide +kernel, rfl, by decide +kernel, by decide +kernel⟩
abbrev s_is_board : Stmt := top 33
theorem sc_is_board : FnScope ["thing", "value"] ["thing"] (defScope s_is_board) := ⟨rfl, rfl, rfl, by decide +kernel, rfl, by decide +kernel, by decide +kernel⟩
abbrev s_want_board : Stmt := top 34
theorem sc_want_board : FnScope ["board"] ["board"] (defScope s_want_board) := ⟨rfl, rfl, rfl, by decide +kernel, rfl, by decide +kernel, by decide +kernel⟩
abbrev s_is_ask : Stmt := top 35
theorem sc_is_ask : FnScope ["board", "thing"] ["board", "thing"] (defScope s_is_ask) := ⟨rfl, rfl, rfl, by decide +kernel, rfl, by decide +kernel, by decide +kernel⟩
abbrev s_are_asks : Stmt := top 36
theorem sc_are_asks : FnScope ["board", "thing", "one"] ["board", "thing"] (defScope s_are_asks) := ⟨rfl, rfl, rfl, by decide +kernel, rfl, by decide +kernel, by decide +kernel⟩
abbrev s_want_asks : Stmt := top 37
theorem sc_want_asks : FnScope ["board", "asks"] ["board", "asks"] (defScope s_want_asks) := ⟨rfl, rfl, rfl, by decide +kernel, rfl, by decide +kernel, by decide +kernel⟩
abbrev s_is_setting_row : Stmt := top 39
theorem sc_is_setting_row : FnScope ["k", "thing", "number"] ["k", "thing"] (defScope s_is_setting_row) := ⟨rfl, rfl, rfl, by decide +kernel, rfl, by decide +kernel, by decide +kernel⟩
abbrev s_is_settings : Stmt := top 40
theorem sc_is_settings : FnScope ["k", "thing", "row"] ["k", "thing"] (defScope s_is_settings) := ⟨rfl, rfl, rfl, by decide +kernel, rfl, by decide +kernel, by decide +kernel⟩
abbrev s_want_settings : Stmt := top 41
theorem sc_want_settings : FnScope ["k", "thing"] ["k", "thing"] (defScope s_want_settings) := ⟨rfl, rfl, rfl, by decide +kernel, rfl, by decide +kernel, by decide +kernel⟩
abbrev s_plain_rows : Stmt := top 42
theorem sc_plain_rows : FnScope ["k", "stage"] ["k"] (defScope s_plain_rows) := ⟨rfl, rfl, rfl, by decide +kernel, rfl, by decide +kernel, by decide +kernel⟩
abbrev s_as_settings : Stmt := top 43
theorem sc_as_settings : FnScope ["rows", "row"] ["rows"] (defScope s_as_settings) := ⟨rfl, rfl, rfl, by decide +kernel, rfl, by decide +kernel, by decide +kernel⟩
abbrev s_straight : Stmt := top 44
theorem sc_straight : FnScope ["k"] ["k"] (defScope s_straight) := ⟨rfl, rfl, rfl, by decide +kernel, rfl, by decide +kernel, by decide +kernel⟩
abbrev s_led_from : Stmt := top 45
theorem sc_led_from : FnScope ["k", "settings", "hand", "line", "stage"] ["k", "settings", "hand"] (defScope s_led_from) := ⟨rfl, rfl, rfl, by decide +kernel, rfl, by decide +kernel, by decide +kernel⟩
abbrev s_led : Stmt := top 46
theorem sc_led : FnScope ["k", "settings", "hand"] ["k", "settings"] (defScope s_led) := ⟨rfl, rfl, rfl, by decide +kernel, rfl, by decide +kernel, by decide +kernel⟩
abbrev s_want_sides : Stmt := top 47
theorem sc_want_sides : FnScope ["k", "sides", "goal"] ["k", "sides"] (defScope s_want_sides) := ⟨rfl, rfl, rfl, by decide +kernel, rfl, by decide +kernel, by decide +kernel⟩
abbrev s_settings_by : Stmt := top 48
theorem sc_settings_by : FnScope ["k", "sides", "rows", "hand", "goal", "line", "stage", "crossed"] ["k", "sides"] (defScope s_settings_by) := ⟨rfl, rfl, rfl, by decide +kernel, rfl, by decide +kernel, by decide +kernel⟩
abbrev s_settings_for : Stmt := top 49
theorem sc_settings_for : FnScope ["k", "sides", "found"] ["k", "sides"] (defScope s_settings_for) := ⟨rfl, rfl, rfl, by decide +kernel, rfl, by decide +kernel, by decide +kernel⟩
abbrev s_want_round : Stmt := top 52
theorem sc_want_round : FnScope ["k", "board", "asks", "hands", "hand", "box", "deed"] ["k", "board", "asks"] (defScope s_want_round) := ⟨rfl, rfl, rfl, by decide +kernel, rfl, by decide +kernel, by decide +kernel⟩
abbrev s_side_of_box : Stmt := top 53
theorem sc_side_of_box : FnScope ["k", "box"] ["k", "box"] (defScope s_side_of_box) := ⟨rfl, rfl, rfl, by decide +kernel, rfl, by decide +kernel, by decide +kernel⟩
abbrev s_line_of : Stmt := top 54
theorem sc_line_of : FnScope ["k", "one", "level"] ["k", "one", "level"] (defScope s_line_of) := ⟨rfl, rfl, rfl, by decide +kernel, rfl, by decide +kernel, by decide +kernel⟩
abbrev s_comes_first : Stmt := top 55
theorem sc_comes_first : FnScope ["k", "stage", "hand", "goal", "firsts", "number"] ["k", "stage", "hand", "goal", "firsts"] (defScope s_comes_first) := ⟨rfl, rfl, rfl, by decide +kernel, rfl, by decide +kernel, by decide +kernel⟩
abbrev s_in_turn : Stmt := top 56
theorem sc_in_turn : FnScope ["k", "stage", "row", "firsts", "ahead", "later", "one"] ["k", "stage", "row", "firsts"] (defScope s_in_turn) := ⟨rfl, rfl, rfl, by decide +kernel, rfl, by decide +kernel, by decide +kernel⟩
abbrev s_joined : Stmt := top 57
theorem sc_joined : FnScope ["one", "other"] ["one", "other"] (defScope s_joined) := ⟨rfl, rfl, rfl, by decide +kernel, rfl, by decide +kernel, by decide +kernel⟩
abbrev s_behind_stage : Stmt := top 58
theorem sc_behind_stage : FnScope ["k", "stage", "row", "firsts", "found", "kept", "one", "goal"] ["k", "stage", "row", "firsts"] (defScope s_behind_stage) := ⟨rfl, rfl, rfl, by decide +kernel, rfl, by decide +kernel, by decide +kernel⟩
abbrev s_put_in : Stmt := top 59
theorem sc_put_in : FnScope ["asks", "number", "hand", "box", "deed"] ["asks"] (defScope s_put_in) := ⟨rfl, rfl, rfl, by decide +kernel, rfl, by decide +kernel, by decide +kernel⟩
abbrev s_gone : Stmt := top 60
theorem sc_gone : FnScope ["k", "asks", "firsts", "levels", "memory", "stage", "row", "kept"] ["k", "asks", "firsts"] (defScope s_gone) := ⟨rfl, rfl, rfl, by decide +kernel, rfl, by decide +kernel, by decide +kernel⟩
abbrev s_load_row : Stmt := top 62
theorem sc_load_row : FnScope ["k", "lines", "found", "line"] ["k", "lines"] (defScope s_load_row) := ⟨rfl, rfl, rfl, by decide +kernel, rfl, by decide +kernel, by decide +kernel⟩
abbrev s_joined_loads : Stmt := top 63
theorem sc_joined_loads : FnScope ["k", "board", "asks", "levels", "level", "row", "one"] ["k", "board", "asks"] (defScope s_joined_loads) := ⟨rfl, rfl, rfl, by decide +kernel, rfl, by decide +kernel, by decide +kernel⟩
abbrev s_plain_loads : Stmt := top 64
theorem sc_plain_loads : FnScope ["k", "board", "asks", "found", "level", "lines", "hand", "box", "deed"] ["k", "board", "asks"] (defScope s_plain_loads) := ⟨rfl, rfl, rfl, by decide +kernel, rfl, by decide +kernel, by decide +kernel⟩
abbrev s__law_rich : Stmt := top 66
theorem sc__law_rich : FnScope ["_law_cell", "_law_turn", "_law_found", "_law_k", "_law_prime", "_law_seed"] ["_law_cell", "_law_turn"] (defScope s__law_rich) := ⟨rfl, rfl, rfl, by decide +kernel, rfl, by decide +kernel, by decide +kernel⟩
abbrev s__law_purse : Stmt := top 67
theorem sc__law_purse : FnScope ["_law_script", "_law_k", "_law_cell"] ["_law_script", "_law_k"] (defScope s__law_purse) := ⟨rfl, rfl, rfl, by decide +kernel, rfl, by decide +kernel, by decide +kernel⟩
abbrev s__law_take : Stmt := top 68
theorem sc__law_take : FnScope ["_law_purse_here", "_law_many", "_law_digit"] ["_law_purse_here", "_law_many"] (defScope s__law_take) := ⟨rfl, rfl, rfl, by decide +kernel, rfl, by decide +kernel, by decide +kernel⟩
abbrev s__law_settings : Stmt := top 69
theorem sc__law_settings : FnScope ["_law_purse_here", "_law_k", "_law_rows", "_law_stage", "_law_number"] ["_law_purse_here", "_law_k"] (defScope s__law_settings) := ⟨rfl, rfl, rfl, by decide +kernel, rfl, by decide +kernel, by decide +kernel⟩
abbrev s__law_sides : Stmt := top 70
theorem sc__law_sides : FnScope ["_law_purse_here", "_law_k", "_law_turn", "_law_many", "_law_found", "_law_one", "_law_other", "_law_hand"] ["_law_purse_here", "_law_k"] (defScope s__law_sides) := ⟨rfl, rfl, rfl, by decide +kernel, rfl, by decide +kernel, by decide +kernel⟩
abbrev s__law_boxes : Stmt := top 71
theorem sc__law_boxes : FnScope ["_law_purse_here", "_law_k", "_law_goal"] ["_law_purse_here", "_law_k"] (defScope s__law_boxes) := ⟨rfl, rfl, rfl, by decide +kernel, rfl, by decide +kernel, by decide +kernel⟩
abbrev s__law_mixed : Stmt := top 72
theorem sc__law_mixed : FnScope ["_law_purse_here", "_law_some", "_law_left", "_law_found"] ["_law_purse_here", "_law_some"] (defScope s__law_mixed) := ⟨rfl, rfl, rfl, by decide +kernel, rfl, by decide +kernel, by decide +kernel⟩
abbrev s__law_deed : Stmt := top 73
theorem sc__law_deed : FnScope ["_law_purse_here", "_law_add"] ["_law_purse_here"] (defScope s__law_deed) := ⟨rfl, rfl, rfl, by decide +kernel, rfl, by decide +kernel, by decide +kernel⟩
abbrev s__law_due : Stmt := top 74
theorem sc__law_due : FnScope ["_law_k", "_law_asks", "_law_level", "_law_found", "_law_hand", "_law_box", "_law_deed_here", "_law_line"] ["_law_k", "_law_asks"] (defScope s__law_due) := ⟨rfl, rfl, rfl, by decide +kernel, rfl, by decide +kernel, by decide +kernel⟩
abbrev s__law_are_rows : Stmt := top 75
theorem sc__law_are_rows : FnScope ["_law_told", "_law_due_here", "_law_row", "_law_one"] ["_law_told", "_law_due_here"] (defScope s__law_are_rows) := ⟨rfl, rfl, rfl, by decide +kernel, rfl, by decide +kernel, by decide +kernel⟩
abbrev s__law_first_full : Stmt := top 76
theorem sc__law_first_full : FnScope ["_law_loads", "_law_level", "_law_row", "_law_line", "_law_many"] ["_law_loads"] (defScope s__law_first_full) := ⟨rfl, rfl, rfl, by decide +kernel, rfl, by decide +kernel, by decide +kernel⟩
abbrev s__law_unlike_boxes : Stmt := top 77
theorem sc__law_unlike_boxes : FnScope ["_law_k", "_law_asks", "_law_level", "_law_line", "_law_found", "_law_hand", "_law_box", "_law_deed_here", "_law_row", "_law_boxes_here"] ["_law_k", "_law_asks"] (defScope s__law_unlike_boxes) := ⟨rfl, rfl, rfl, by decide +kernel, rfl, by decide +kernel, by decide +kernel⟩
abbrev s__law_joined_right : Stmt := top 78
theorem sc__law_joined_right : FnScope ["_law_k", "_law_board", "_law_asks", "_law_told", "_law_hand", "_law_box", "_law_deed_here", "_law_row"] ["_law_k", "_law_board", "_law_asks"] (defScope s__law_joined_right) := ⟨rfl, rfl, rfl, by decide +kernel, rfl, by decide +kernel, by decide +kernel⟩
abbrev s__law_loads_right : Stmt := top 79
theorem sc__law_loads_right : FnScope ["_law_k", "_law_board", "_law_asks", "_law_told", "_law_pairs", "_law_line", "_law_hand", "_law_box", "_law_deed_here"] ["_law_k", "_law_board", "_law_asks"] (defScope s__law_loads_right) := ⟨rfl, rfl, rfl, by decide +kernel, rfl, by decide +kernel, by decide +kernel⟩
abbrev s_law : Stmt := top 80
theorem sc_law : FnScope ["_law_script", "_law_cell", "_law_purse_here", "_law_k", "_law_board", "_law_boxes_here", "_law_asks", "_law_line", "_law_told", "_law_some", "_law_box", "_law_hand"] ["_law_script"] (defScope s_law) := ⟨rfl, rfl, rfl, by decide +kernel, rfl, by decide +kernel, by decide +kernel⟩
abbrev s_Carried____init__ : Stmt := inClass (top 51) 0
theorem sc_Carried____init__ : FnScope ["self", "hand", "box", "deed", "parts"] ["self", "hand", "box", "deed", "parts"] (defScope s_Carried____init__) := ⟨rfl, rfl, rfl, by decide +kernel, rfl, by decide +kernel, by decide +kernel⟩
structure Bl (K : PySem.W.Frag) (mg : Str → Option Value) : Prop where
  abs_ : mg "abs" = none
  all_ : mg "all" = none
  any_ : mg "any" = none
  bool_ : mg "bool" = none
  enumerate_ : mg "enumerate" = none
  int_ : mg "int" = none
  isinstance_ : mg "isinstance" = none
  len_ : mg "len" = none
  list_ : mg "list" = none
  max_ : mg "max" = none
  min_ : mg "min" = none
  range_ : mg "range" = none
  set_ : mg "set" = none
  tuple_ : mg "tuple" = none
  MOST_BOXES_ : ∃ t, mg "MOST_BOXES" = some (.int (16) t)
  HANDS_ : ∃ t, mg "HANDS" = some (.int (16) t)
  Carried_ : ClsF K mg "Carried" ["box", "deed", "hand", "parts"]

end Toy
/-! ### enumerate of a tuple -/
namespace PySem
open Sem (wp)
open AutoSeq1 (wpAny_loadPart')
theorem meets_enumerate_newTu (l : Addr) (items : Array Value) (n : Nat) (dct : Option Addr) (sl : Array (Option Value)) :
    Meets (Builtin.«enumerate.__new__» ⟨[.type "enumerate", .ref l], []⟩) (fun _ R s => s.heap.get? l = some { cls := .type "tuple", dict := dct, data := .seq items n, slots := sl } ∧
      R (.ok (.ret (.ref (s.heap.push { cls := .type "tuple_iterator", data := .fields #[.ref l, .int 0 0] }).objs.size)))
        { s with heap := (s.heap.push { cls := .type "tuple_iterator", data := .fields #[.ref l, .int 0 0] }).push { cls := .type "enumerate", data := .fields #[.none, .bool false, .ref s.heap.objs.size, rawInt 0, .none, .none] } }) :=
  .of_wp fun prog w A R s h => by
    obtain ⟨hp, g, d, tk, os⟩ := s; obtain ⟨hl, h⟩ := h
    have hsub := sub_enumerate
    have hL : Heap.IsTuple (Shared.heap ⟨hp, g, d, tk, os⟩) l items := ⟨_, hl, rfl, n, rfl⟩
    wp_walk using wpAny_loadPart' hl
    refine wpAny_stack_any fun st => wpAny_pure ?_
    split
    · rename_i c _ _ _ _ _
      cases (c == Value.type "enumerate")
      · wp_walk using wpAny_loadPart' hl, wpAny_pyIter_tuple hL
        exact ⟨_, rfl, h⟩
      · wp_walk using wpAny_loadPart' hl, wpAny_pyIter_tuple hL
        exact ⟨_, rfl, h⟩
    · wp_walk using wpAny_loadPart' hl, wpAny_pyIter_tuple hL
      exact ⟨_, rfl, h⟩
theorem call_enumerate_tup {prog : Program} {w : World} {A : Around} {E : Value → Shared → Prop} {s : Shared} {l : Addr} {items : Array Value} {Q : Value → Shared → Prop} (hL : s.heap.IsTuple l items)
    (h : ∀ h', IsEnum h' (s.heap.objs.size + 1) s.heap.objs.size 0 .none → h'.IsTupleIter s.heap.objs.size l 0 → h'.objs.size = s.heap.objs.size + 2 →
      (∀ b o, s.heap.get? b = some o → h'.get? b = some o) → Q (.ref (s.heap.objs.size + 1)) { s with heap := h' }) :
    wpAny (model prog w) A (call (.type "enumerate") [.ref l]) Q E s := by
  obtain ⟨⟨c, dct, dt, sl⟩, hl, hc, n, hd⟩ := hL
  replace hc : c = .type "tuple" := hc
  replace hd : dt = .seq items n := hd
  subst hc hd
  refine callType_new F.called_enumerate (by decide) (F.typeCall_enumerate_1 _) (F.newCall_enumerate_1 _) (fun obj => F.args_object_init_2 obj _) F.entry_enumerate_new
    (meets_enumerate_newTu l items n dct sl) ⟨hl, ?_⟩
  have hz : (s.heap.push { cls := .type "tuple_iterator", data := .fields #[.ref l, .int 0 0] }).objs.size = s.heap.objs.size + 1 := Heap.size_push ..
  show _ ∧ _
  rw [hz]
  have he : IsEnum ((s.heap.push { cls := .type "tuple_iterator", data := .fields #[.ref l, .int 0 0] }).push
      { cls := .type "enumerate", data := .fields #[.none, .bool false, .ref s.heap.objs.size, rawInt 0, .none, .none] }) (s.heap.objs.size + 1) s.heap.objs.size 0 .none := by
    have := Heap.get?_push_size (s.heap.push { cls := .type "tuple_iterator", data := .fields #[.ref l, .int 0 0] })
      (o := { cls := .type "enumerate", data := .fields #[.none, .bool false, .ref s.heap.objs.size, rawInt 0, .none, .none] }) rfl
    rw [hz] at this; exact this
  refine ⟨⟨_, he, rfl⟩, h _ he ⟨_, Heap.get?_push_of_some _ (Heap.get?_push_size _ rfl), rfl, rfl⟩ (by rw [Heap.size_push, hz]) fun b o x => Heap.get?_push_of_some _ (Heap.get?_push_of_some _ x)⟩
end PySem
namespace Toy
open PySem PySem.Spec PyProof.Rows L2
theorem tup_is {h : Heap} {a : Addr} {its : Array Value} (p : IsTup h a its) : h.IsTuple a its := p
/-- the tuple at a as it stands at each turn, each item in a new pair -/
def IteT (K : PySem.W.Frag) (a : Addr) : It :=
  ⟨fun i H => ∃ (xs : List V) (x : V), SqT K H a xs ∧ xs[i]? = some x, fun i H v H' => ∃ T x, v = .ref T ∧ H T = none ∧ H' = upd H T (.tup [.int (i : Nat), x]) ∧ ∀ xs, SqT K H a xs → xs[i]? = some x, fun i H => ∃ xs : List V, SqT K H a xs ∧ xs.length = i⟩
theorem turn_enumTu {P : Program} {w : World} {K : PySem.W.Frag} {elts : List Expr} {kk : Nat} {tpos : Pos} (a e it : Addr) (hai : a ≠ it) :
    Turn P w K (.Tuple elts kk tpos) (IteT K a) [e, it] e (fun i h => (∃ old, IsEnum h e it ((i : Nat) : Int) old) ∧ h.IsTupleIter it a i ∧ e ≠ it ∧ e ≠ a) where
  mem := by simp
  obj := fun i h st b hb => by
    obtain ⟨⟨old, he⟩, ⟨o, ho, hc, hd⟩, _⟩ := st
    have e' : b = e ∨ b = it := by simpa using hb
    rcases e' with z | z
    · rw [z]; exact ⟨_, he, fun v q => nomatch q⟩
    · rw [z]; exact ⟨o, ho, fun v q => by rw [hd] at q; cases q⟩
  keep := fun i h h' st k => let ⟨⟨old, he⟩, hi, hne⟩ := st; ⟨⟨old, k e (by simp) _ he⟩, hi.at fun o q => k it (by simp) o q, hne⟩
  item := by
    intro X hP hw hK hc i pins s σ H E I hf st hg
    subst hP hw hK
    obtain ⟨⟨old, he⟩, hit, hne, hea⟩ := st
    obtain ⟨xs, x, hq, hx⟩ := hg
    obtain ⟨its, rv, p, hz⟩ := I.tuple hq
    obtain ⟨u, hu, ru⟩ := rv.get hx
    have hel : e < s.heap.objs.size := Heap.lt_size he
    have hil : it < s.heap.objs.size := by obtain ⟨_, q, _⟩ := hit; exact Heap.lt_size q
    refine wpAny_pyNext_enum_itemD (Draws.tuple (show X.A.in1.handled = none from I.ok.hd hc) it a hai its.toArray) he ⟨hit, tup_is p⟩ (by have h1 := rv.length; have h2 := (List.getElem?_eq_some_iff.mp hx).1; rw [List.size_toArray]; omega) hne (by simp [hne, hea]) fun x' h' tk hP ho hst' hT hsz hk => ?_
    obtain ⟨hit', ht'⟩ := hst'
    have ex : x' = u := by
      have h1 : its[i]? = some x' := by simpa using hP
      rw [hu] at h1
      exact (Option.some.inj h1).symm
    subst ex
    refine ⟨_, rfl, wpAny_letOwnedTupleGo_enum (s := { s with heap := h', toks := tk + 1 }) ho fun h'' he' sb => ?_⟩
    have hT2 : h''.get? s.heap.objs.size = some { cls := .type "tuple", data := .seq #[.int i tk, x'] } := (sb.2 _ (Nat.ne_of_gt hel)).trans hT
    have new : ObjOk X.prog X.w (upd H s.heap.objs.size (.tup [.int (i : Nat), x])) h'' s.heap.objs.size (.tup [.int (i : Nat), x]) :=
      ⟨by show 2 ≤ sizeLine; decide, [.int i tk, x'], .cons ⟨_, rfl⟩ (.cons ru .nil), ⟨_, hT2, rfl, _, rfl⟩⟩
    have I1 : Inv X pins σ (upd H s.heap.objs.size (.tup [.int (i : Nat), x])) { s with heap := h'', toks := tk + 1 } :=
      I.turnedNew (ch := [e, it]) (fun b ob hb q => (sb.2 b (fun z => hb (by simp [z]))).trans (hk b ob (fun z => hb (by simp [z])) (fun z => hb (by simp [z])) q)) hf (Nat.le_refl _) new
    refine ⟨.ref s.heap.objs.size, _, I1, rfl, ⟨_, x, rfl, I.hok.fresh (Nat.le_refl _), rfl, fun ys hy => by rw [I.tuple_inj hy hq]; exact hx⟩, ⟨⟨x', ?_⟩, hit'.at fun o q => (sb.2 it (Ne.symm hne)).trans q, hne, hea⟩, fun b hb => ?_⟩
    · have e1 : ((i + 1 : Nat) : Int) = (i : Int) + 1 := by omega
      rw [e1]; exact he'
    · have hb' : b < s.heap.objs.size := by
        have e' : b = e ∨ b = it := by simpa using hb
        rcases e' with z | z
        · rw [z]; exact hel
        · rw [z]; exact hil
      rw [upd_ne (Nat.ne_of_lt hb')]
      exact (hf b hb).1
  done := by
    intro X hP hw hK hc i pins s σ H E I hf st hg
    subst hP hw hK
    obtain ⟨⟨old, he⟩, hit, hne, hea⟩ := st
    obtain ⟨xs, hq, hx⟩ := hg
    obtain ⟨its, rv, p, hz⟩ := I.tuple hq
    obtain ⟨f0, f1, f2, f3, f4, f5⟩ := hf it (by simp)
    have hl := rv.length
    have e2 : i = its.toArray.size := by rw [List.size_toArray]; omega
    rw [e2] at hit he
    exact wpAny_pyNext_enum_endD (Draws.tuple (show X.A.in1.handled = none from I.ok.hd hc) it a hai its.toArray) he ⟨hit, tup_is p⟩ fun h' eb => ⟨rfl, I.turned (t' := s.toks) (fun b o hb q => eb b o hb q) f0 f1 f3 f4 f5⟩
  self := fun A i s Q E st h => let ⟨⟨_, he⟩, _⟩ := st; wpAny_pyIter_enum he h
def iEnumT (K : PySem.W.Frag) (ta : TA) : TI := fun σ H R => ta σ H fun vs H1 => ∃ a xs, vs = [.ref a] ∧ SqT K H1 a xs ∧ R (IteT K a) H1
theorem pi_enumT {X : Cx} {e : Expr} {ta : TA} {p pos tpos : Pos} {elts : List Expr} {kk : Nat} (hg : Gl X "enumerate") (hm : X.mg "enumerate" = none) (ha : PA X [e] ta) (hs : starEach [e] X.env = [(false, eval e X.env)] := by rfl) :
    PI X (.Tuple elts kk tpos) (.Call (.Name "enumerate" p) [e] [] pos) (iEnumT X.K ta) := by
  refine ⟨fun pins s σ H R I h => ?_⟩
  refine Call_ (ld_blt I hg hm boot_enumerate (PyProof.Rows.callWith_type1 (thn (ha.run pos pins s σ H _ I h) fun us s1 ⟨vs, H1, I1, r1, q1⟩ => ?_) hs rfl))
  obtain ⟨a, xs, ex, hq, q⟩ := q1
  subst ex
  cases r1 with
  | cons r rr =>
    cases rr
    cases r
    obtain ⟨its, rv, p', hz⟩ := I1.tuple hq
    have hal : a < s1.heap.objs.size := by obtain ⟨o, ho, _⟩ := p'; exact Heap.lt_size ho
    refine call_enumerate_tup (tup_is p') fun h' he hit hsz hk => wpAny_pyIter_enum he ?_
    have I2 : Inv X pins σ H1 { s1 with heap := h' } := I1.kept (t' := s1.toks) hk
    refine ⟨s1.heap.objs.size + 1, [s1.heap.objs.size + 1, s1.heap.objs.size], _, _, H1, rfl, I2, turn_enumTu a (s1.heap.objs.size + 1) s1.heap.objs.size (Nat.ne_of_lt hal), ⟨⟨.none, he⟩, hit, Nat.succ_ne_self _, Nat.ne_of_gt (Nat.lt_succ_of_lt hal)⟩, fun b hb => ?_, q⟩
    have e' : b = s1.heap.objs.size + 1 ∨ b = s1.heap.objs.size := by simpa using hb
    have hle : s1.heap.objs.size ≤ b := by
      rcases e' with z | z
      · rw [z]; exact Nat.le_add_right _ _
      · rw [z]; exact Nat.le_refl _
    exact I1.fpOk hle (I1.hok.fresh hle)
theorem for_enumT {K : PySem.W.Frag} {a : Addr} {xs : List V} {g : TG} {tb : TS} {D : Ends} {σ : L2.St} {H : Hp} (Pv : Nat → L2.St → Hp → Prop) (h0 : Pv 0 σ H) (hl : ∀ i σ H, i ≤ xs.length → Pv i σ H → SqT K H a xs)
    (hs : ∀ (i : Nat) x (T : Addr) σ H, xs[i]? = some x → Pv i σ H → H T = none → g (.ref T) σ (upd H T (.tup [.int i, x])) fun σ2 H2 => tb { D with nx := Pv (i + 1), ct := Pv (i + 1), bk := D.nx } σ2 H2) (hd : ∀ σ H, Pv xs.length σ H → D.nx σ H) :
    ∃ W : Nat → Nat → L2.St → Hp → Prop, (∃ m, W 0 m σ H) ∧ ∀ i m σ H, W i m σ H →
      ((IteT K a).stop i H ∧ D.nx σ H) ∨ ((IteT K a).go i H ∧ ∃ N : L2.St → Hp → Prop, (∀ σ' H', N σ' H' → ∃ m', m' < m ∧ W (i + 1) m' σ' H') ∧ ∀ x H', (IteT K a).yld i H x H' → g x σ H' fun σ2 H2 => tb { D with nx := N, ct := N, bk := D.nx } σ2 H2) := by
  refine ⟨fun i m σ H => m = xs.length - i ∧ i ≤ xs.length ∧ Pv i σ H, ⟨xs.length, by simp, Nat.zero_le _, h0⟩, ?_⟩
  rintro i m σ H ⟨rfl, hi, p⟩
  have q := hl i σ H hi p
  by_cases hlt : i < xs.length
  · refine .inr ⟨⟨xs, xs[i], q, List.getElem?_eq_getElem hlt⟩, Pv (i + 1), fun σ' H' p' => ⟨xs.length - (i + 1), by omega, rfl, hlt, p'⟩, fun x H' y => ?_⟩
    obtain ⟨T, z, rfl, hT, rfl, hz⟩ := y
    exact hs i z T σ H (hz xs q) p hT
  · have e : i = xs.length := by omega
    subst e
    exact .inl ⟨⟨xs, q, rfl⟩, hd σ H p⟩
/-! ### loops over any iterable: the forms one uses -/
theorem lc_it {I : It} {n : Nat} {g : TG} {tt : TT} {te : TE} {vs : List Nat} {σ : L2.St} {H1 : Hp} {D : Addr} {Qd : Hp → Prop} (Pv : Nat → Hp → Prop) (h0 : Pv 0 (upd H1 D (.lst [])))
    (hgo : ∀ i H, i < n → Pv i H → I.go i H) (hst : ∀ H, Pv n H → I.stop n H)
    (hs : ∀ i x H H', i < n → Pv i H → I.yld i H x H' → g x (wipe σ vs) H' fun σ2 H2 => wipe σ2 vs = wipe σ vs ∧ tt σ2 H2 fun b H3 =>
      if b = true then te σ2 H3 fun y H4 => ∃ acc, H4 D = some (.lst acc) ∧ acc.length < sizeLine ∧ Pv (i + 1) (upd H4 D (.lst (acc ++ [y]))) else Pv (i + 1) H3) (hd : ∀ H, Pv n H → Qd H) :
    ∃ W : Nat → Nat → Hp → Prop, (∃ m, W 0 m (upd H1 D (.lst []))) ∧ ∀ i m H, W i m H →
      (I.stop i H ∧ Qd H) ∨ (I.go i H ∧ ∃ Nx : Hp → Prop, (∀ H', Nx H' → ∃ m', m' < m ∧ W (i + 1) m' H') ∧ ∀ x H', I.yld i H x H' → g x (wipe σ vs) H' fun σ2 H2 => wipe σ2 vs = wipe σ vs ∧ tt σ2 H2 fun b H3 =>
        if b = true then te σ2 H3 fun y H4 => ∃ acc, H4 D = some (.lst acc) ∧ acc.length < sizeLine ∧ Nx (upd H4 D (.lst (acc ++ [y]))) else Nx H3) := by
  refine ⟨fun i m H => m = n - i ∧ i ≤ n ∧ Pv i H, ⟨n, by simp, Nat.zero_le _, h0⟩, ?_⟩
  rintro i m H ⟨rfl, hi, p⟩
  by_cases hlt : i < n
  · exact .inr ⟨hgo i H hlt p, Pv (i + 1), fun H' p' => ⟨n - (i + 1), by omega, rfl, hlt, p'⟩, fun x H' y => hs i x H H' hlt p y⟩
  · have e : i = n := by omega
    subst e
    exact .inl ⟨hst H p, hd H p⟩
theorem for_it {I : It} {n : Nat} {g : TG} {tb : TS} {D : Ends} {σ : L2.St} {H : Hp} (Pv : Nat → L2.St → Hp → Prop) (h0 : Pv 0 σ H)
    (hgo : ∀ i σ H, i < n → Pv i σ H → I.go i H) (hst : ∀ σ H, Pv n σ H → I.stop n H)
    (hs : ∀ i x σ H H', i < n → Pv i σ H → I.yld i H x H' → g x σ H' fun σ2 H2 => tb { D with nx := Pv (i + 1), ct := Pv (i + 1), bk := D.nx } σ2 H2) (hd : ∀ σ H, Pv n σ H → D.nx σ H) :
    ∃ W : Nat → Nat → L2.St → Hp → Prop, (∃ m, W 0 m σ H) ∧ ∀ i m σ H, W i m σ H →
      (I.stop i H ∧ D.nx σ H) ∨ (I.go i H ∧ ∃ N : L2.St → Hp → Prop, (∀ σ' H', N σ' H' → ∃ m', m' < m ∧ W (i + 1) m' σ' H') ∧ ∀ x H', I.yld i H x H' → g x σ H' fun σ2 H2 => tb { D with nx := N, ct := N, bk := D.nx } σ2 H2) := by
  refine ⟨fun i m σ H => m = n - i ∧ i ≤ n ∧ Pv i σ H, ⟨n, by simp, Nat.zero_le _, h0⟩, ?_⟩
  rintro i m σ H ⟨rfl, hi, p⟩
  by_cases hlt : i < n
  · exact .inr ⟨hgo i σ H hlt p, Pv (i + 1), fun σ' H' p' => ⟨n - (i + 1), by omega, rfl, hlt, p'⟩, fun x H' y => hs i x σ H H' hlt p y⟩
  · have e : i = n := by omega
    subst e
    exact .inl ⟨hst σ H p, hd σ H p⟩
/-- [.. for i, x in enumerate(xs)] -/
theorem lc_enum {K : PySem.W.Frag} {a : Addr} {xs : List V} {g : TG} {tt : TT} {te : TE} {vs : List Nat} {σ : L2.St} {H1 : Hp} {D : Addr} {Qd : Hp → Prop} (Pv : Nat → Hp → Prop) (h0 : Pv 0 (upd H1 D (.lst []))) (hl : ∀ i H, i ≤ xs.length → Pv i H → SqL K H a xs)
    (hs : ∀ (i : Nat) x (T : Addr) H, xs[i]? = some x → Pv i H → H T = none → g (.ref T) (wipe σ vs) (upd H T (.tup [.int i, x])) fun σ2 H2 => wipe σ2 vs = wipe σ vs ∧ tt σ2 H2 fun b H3 =>
      if b = true then te σ2 H3 fun y H4 => ∃ acc, H4 D = some (.lst acc) ∧ acc.length < sizeLine ∧ Pv (i + 1) (upd H4 D (.lst (acc ++ [y]))) else Pv (i + 1) H3) (hd : ∀ H, Pv xs.length H → Qd H) :
    ∃ W : Nat → Nat → Hp → Prop, (∃ m, W 0 m (upd H1 D (.lst []))) ∧ ∀ i m H, W i m H →
      ((Ite K a).stop i H ∧ Qd H) ∨ ((Ite K a).go i H ∧ ∃ Nx : Hp → Prop, (∀ H', Nx H' → ∃ m', m' < m ∧ W (i + 1) m' H') ∧ ∀ x H', (Ite K a).yld i H x H' → g x (wipe σ vs) H' fun σ2 H2 => wipe σ2 vs = wipe σ vs ∧ tt σ2 H2 fun b H3 =>
        if b = true then te σ2 H3 fun y H4 => ∃ acc, H4 D = some (.lst acc) ∧ acc.length < sizeLine ∧ Nx (upd H4 D (.lst (acc ++ [y]))) else Nx H3) := by
  refine lc_it (I := Ite K a) (n := xs.length) Pv h0 (fun i H hi p => ⟨xs, xs[i], hl i H (Nat.le_of_lt hi) p, List.getElem?_eq_getElem hi⟩) (fun H p => ⟨xs, hl _ H (Nat.le_refl _) p, Nat.le_refl _⟩) ?_ hd
  rintro i x H H' hi p ⟨T, z, rfl, hT, rfl, hz⟩
  exact hs i z T H (hz xs (hl i H (Nat.le_of_lt hi) p)) p hT
theorem for_enum' {K : PySem.W.Frag} {a : Addr} {xs : List V} {g : TG} {tb : TS} {D : Ends} {σ : L2.St} {H : Hp} (Pv : Nat → L2.St → Hp → Prop) (h0 : Pv 0 σ H) (hl : ∀ i σ H, i ≤ xs.length → Pv i σ H → SqL K H a xs)
    (hs : ∀ (i : Nat) x (T : Addr) σ H, xs[i]? = some x → Pv i σ H → H T = none → g (.ref T) σ (upd H T (.tup [.int i, x])) fun σ2 H2 => tb { D with nx := Pv (i + 1), ct := Pv (i + 1), bk := D.nx } σ2 H2) (hd : ∀ σ H, Pv xs.length σ H → D.nx σ H) :
    ∃ W : Nat → Nat → L2.St → Hp → Prop, (∃ m, W 0 m σ H) ∧ ∀ i m σ H, W i m σ H →
      ((Ite K a).stop i H ∧ D.nx σ H) ∨ ((Ite K a).go i H ∧ ∃ N : L2.St → Hp → Prop, (∀ σ' H', N σ' H' → ∃ m', m' < m ∧ W (i + 1) m' σ' H') ∧ ∀ x H', (Ite K a).yld i H x H' → g x σ H' fun σ2 H2 => tb { D with nx := N, ct := N, bk := D.nx } σ2 H2) := by
  refine for_it (I := Ite K a) (n := xs.length) Pv h0 (fun i σ H hi p => ⟨xs, xs[i], hl i σ H (Nat.le_of_lt hi) p, List.getElem?_eq_getElem hi⟩) (fun σ H p => ⟨xs, hl _ σ H (Nat.le_refl _) p, Nat.le_refl _⟩) ?_ hd
  rintro i x σ H H' hi p ⟨T, z, rfl, hT, rfl, hz⟩
  exact hs i z T σ H (hz xs (hl i σ H (Nat.le_of_lt hi) p)) p hT
/-- xs[i] of a list, as a value -/
theorem get_listI {X : Cx} : PGet X (rIxL X.K) := by
  intro pins s σ H o i ov iv Q I ro ri h
  obtain ⟨p, xs, k, z, rfl, rfl, hq, he, q⟩ := h
  cases ro
  obtain ⟨t, rfl⟩ := ri
  obtain ⟨its, r, pl, hz⟩ := I.list hq
  obtain ⟨j, h1, h2, h3, h4, h5⟩ := atI_get he
  obtain ⟨w, ew, rw'⟩ := r.get h2
  have hl := r.length
  have hn := line63
  have fin : EP X pins σ Q w s := ⟨z, H, I, rw', q⟩
  by_cases h0 : 0 ≤ k
  · have hj : k.toNat = j := by
      rw [seqIndex_of h0 h5] at h1
      exact Option.some.inj h1
    exact wpAny_getItem_list pl.isList h0 (by omega) (by rw [hj]; simpa using ew) fin
  · have hj : (k + (its.toArray.size : Int)).toNat = j := by
      rw [seqIndex_neg (by omega) h4] at h1
      rw [List.size_toArray, ← hl]
      exact Option.some.inj h1
    exact wpAny_getItem_list_neg pl.isList (by omega) (by rw [List.size_toArray] <;> omega) (by omega) (by rw [hj]; simpa using ew) fin
end Toy
/-! ### list(enumerate(t)), t a tuple (wants enumt.inc) -/
namespace PySem
theorem enum_no_len' : typeLookup (.type "enumerate") "__len__" = pure none := by rw [typeLookup_type, builtinLookup_eq_fast]; kernel_rfl
theorem enum_no_hint' : typeLookup (.type "enumerate") "__length_hint__" = pure none := by rw [typeLookup_type, builtinLookup_eq_fast]; kernel_rfl
section
variable {prog : Program} {w : World} {A : Around} {E : Value → Shared → Prop} {s : Shared}
theorem enum_next_heldD {e it T : Addr} {fp : List Addr} {n i : Nat} {P : Nat → Value → Prop} {St : Nat → Heap → Prop} {old : Value} {f : Bool} {oT : Obj} {Q : Value → Shared → Prop}
    (D : Draws prog w A it fp n P St) (he : IsEnumHeld s.heap e it i old T f) (hT : s.heap.get? T = some oT) (hTe : T ≠ e) (hTi : T ≠ it) (hst : St i s.heap) (hlt : i < n) (hne : e ≠ it) (hef : e ∉ fp)
    (hQ : ∀ x h' tk, P i x → IsEnumHeld h' e it ((i : Int) + 1) old T true → St (i + 1) h' →
      h'.get? s.heap.objs.size = some { cls := .type "tuple", data := .seq #[.int i tk, x] } → h'.objs.size = s.heap.objs.size + 1 →
      (∀ b o, b ≠ e → b ≠ it → s.heap.get? b = some o → h'.get? b = some o) → Q (.ref s.heap.objs.size) { s with heap := h', toks := tk + 1 }) :
    wpAny (model prog w) A (Builtin.«enumerate.__next__» ⟨[.ref e], []⟩) (fun fin s' => ∃ v, fin = .done (.ret v) ∧ Q v s') E s := by
  obtain ⟨hp, g, d, tk₀, os⟩ := s
  show wpAny _ _ (field (.ref e) 2 >>= _) _ _ _
  refine wpAny_bind (wpAny_field he rfl (x := .ref it) rfl ?_)
  refine wpAny_bind (D.item i _ _ _ hlt hst fun x h₁ tk hPx hit₁ hs₁ => ?_)
  replace hs₁ : Heap.SameBut it hp h₁ := hs₁
  have he₁ : IsEnumHeld h₁ e it i old T f := (hs₁.2 e hne).trans he
  show wpAny _ _ (field (.ref e) 3 >>= _) _ _ ⟨h₁, g, d, tk, os⟩
  refine wpAny_bind (wpAny_field he₁ rfl (x := rawInt i) rfl ?_)
  show wpAny _ _ (field (.ref e) 4 >>= _) _ _ ⟨h₁, g, d, tk, os⟩
  refine wpAny_bind (wpAny_field he₁ rfl (x := .none) rfl ?_)
  show wpAny _ _ (mkInt i >>= _) _ _ ⟨h₁, g, d, tk, os⟩
  refine wpAny_bind (wpAny_mkInt ?_)
  show wpAny _ _ (setField (.ref e) 3 (rawInt ((i : Int) + 1)) >>= _) _ _ ⟨h₁, g, d, tk + 1, os⟩
  refine wpAny_bind (wpAny_setField_rec he₁ (by simp) fun h₂ he₂ hs₂ => ?_)
  replace hs₂ : Heap.SameBut e h₁ h₂ := hs₂
  replace he₂ : IsEnumHeld h₂ e it ((i : Int) + 1) old T f := he₂
  show wpAny _ _ (setField (.ref e) 4 .none >>= _) _ _ ⟨h₂, g, d, tk + 1, os⟩
  refine wpAny_bind (wpAny_setField_rec he₂ (by simp) fun h₃ he₃ hs₃ => ?_)
  replace hs₃ : Heap.SameBut e h₂ h₃ := hs₃
  replace he₃ : IsEnumHeld h₃ e it ((i : Int) + 1) old T f := he₃
  show wpAny _ _ (newTuple [.int i tk, x] >>= _) _ _ ⟨h₃, g, d, tk + 1, os⟩
  refine wpAny_bind (wpAny_newTuple ?_)
  have he₄ : IsEnumHeld (h₃.push { cls := .type "tuple", data := .seq #[.int i tk, x] }) e it ((i : Int) + 1) old T f := Heap.get?_push_of_some _ he₃
  generalize hh₄ : h₃.push { cls := .type "tuple", data := .seq #[.int i tk, x] } = h₄ at he₄
  have hsz : h₃.objs.size = hp.objs.size := by rw [hs₃.1, hs₂.1, hs₁.1]
  have hel : e < hp.objs.size := Heap.lt_size he
  have ht₄ : h₄.get? hp.objs.size = some { cls := .type "tuple", data := .seq #[.int i tk, x] } := by rw [← hh₄, ← hsz]; exact Heap.get?_push_size _ rfl
  have hz₄ : h₄.objs.size = hp.objs.size + 1 := by rw [← hh₄, Heap.size_push, hsz]
  have hk₄ : ∀ b o, b ≠ e → b ≠ it → hp.get? b = some o → h₄.get? b = some o := fun b o hbe hbi hb => by
    rw [← hh₄]; exact Heap.get?_push_of_some _ (hs₃.extBut b o hbe (hs₂.extBut b o hbe (hs₁.extBut b o hbi hb)))
  have hit₄ : St (i + 1) h₄ := D.frame _ _ _ hit₁ fun b hb o y => by
    have hbe : b ≠ e := fun q => hef (q ▸ hb)
    rw [← hh₄]; exact Heap.get?_push_of_some _ (hs₃.extBut b o hbe (hs₂.extBut b o hbe y))
  show wpAny _ _ (Builtin.SmallTypes.ownedTupleIsFree (.ref e) >>= _) _ _ ⟨h₄, g, d, tk + 1, os⟩
  rw [hsz]
  clear hh₄ he₃ hs₃ he₂ hs₂ he₁ hs₁ hit₁ hsz h₃ h₂ h₁
  refine wpAny_bind (wpAny_tupleHeld_enum (s := ⟨h₄, g, d, tk + 1, os⟩) he₄ (hk₄ T oT hTe hTi hT) fun h₅ he₅ hs₅ => ?_)
  replace hs₅ : Heap.SameBut e h₄ h₅ := hs₅
  simp only [Bool.false_eq_true, if_false]
  refine wpAny_pure ⟨_, rfl, hQ x h₅ tk hPx he₅ ?_ (hs₅.extBut _ _ (Nat.ne_of_gt hel) ht₄) ?_ fun b o hbe hbi hb => hs₅.extBut b o hbe (hk₄ b o hbe hbi hb)⟩
  · exact D.frame _ _ _ hit₄ fun b hb o y => by
      have hbe : b ≠ e := fun q => hef (q ▸ hb)
      exact hs₅.extBut b o hbe y
  · show h₅.objs.size = hp.objs.size + 1
    rw [hs₅.1, hz₄]
theorem pyNext_enum_heldD {e it T : Addr} {fp : List Addr} {n i : Nat} {P : Nat → Value → Prop} {St : Nat → Heap → Prop} {old : Value} {f : Bool} {oT : Obj} {Q : Option Value → Shared → Prop}
    (D : Draws prog w A.in1 it fp n P St) (he : IsEnumHeld s.heap e it i old T f) (hT : s.heap.get? T = some oT) (hTe : T ≠ e) (hTi : T ≠ it) (hst : St i s.heap) (hlt : i < n) (hne : e ≠ it) (hef : e ∉ fp)
    (hQ : ∀ x h' tk, P i x → IsEnumHeld h' e it ((i : Int) + 1) old T true → St (i + 1) h' →
      h'.get? s.heap.objs.size = some { cls := .type "tuple", data := .seq #[.int i tk, x] } → h'.objs.size = s.heap.objs.size + 1 →
      (∀ b o, b ≠ e → b ≠ it → s.heap.get? b = some o → h'.get? b = some o) → Q (some (.ref s.heap.objs.size)) { s with heap := h', toks := tk + 1 }) :
    wpAny (model prog w) A (pyNext (.ref e)) Q E s := by
  have hTy : s.TypeIs (.ref e) "enumerate" := ⟨_, he, rfl⟩
  unfold pyNext
  exact wpAny_bind (wpAny_attempt (wpAny_callSpecial?_slot (name := Str.ofString "__next__") hTy F.slot_enumerate_next
    (wpAny_call_entry F.slot_enumerate_next hTy F.entry_enumerate_next
      (enum_next_heldD D he hT hTe hTi hst hlt hne hef fun x h' tk a0 a1 a2 a3 a4 a5 => wpAny_pure (hQ x h' tk a0 a1 a2 a3 a4 a5)) (F.args_enumerate_next_1 _))))
theorem pyNext_enum_end_heldD {e it T : Addr} {fp : List Addr} {n : Nat} {P : Nat → Value → Prop} {St : Nat → Heap → Prop} {i : Int} {old : Value} {f : Bool} {Q : Option Value → Shared → Prop}
    (D : Draws prog w A.in1 it fp n P St) (he : IsEnumHeld s.heap e it i old T f) (hst : St n s.heap)
    (hQ : ∀ h', Heap.ExtBut it s.heap h' → Q none { s with heap := h' }) : wpAny (model prog w) A (pyNext (.ref e)) Q E s := by
  have hT : s.TypeIs (.ref e) "enumerate" := ⟨_, he, rfl⟩
  unfold pyNext
  refine wpAny_bind (wpAny_attempt (wpAny_callSpecial?_slot (name := Str.ofString "__next__") hT F.slot_enumerate_next
    (wpAny_call_entry F.slot_enumerate_next hT F.entry_enumerate_next ?_ (F.args_enumerate_next_1 _))))
  show wpAny _ _ (field (.ref e) 2 >>= _) _ _ _
  refine wpAny_bind (wpAny_field he rfl (x := .ref it) rfl ?_)
  refine wpAny_bind (D.done _ _ _ hst fun h' x he' hx' => ?_)
  obtain ⟨o, ho, hc⟩ := hx'
  refine wpAny_bind (wpAny_isInstance (T := "StopIteration") (b := true) ⟨o, ho, hc⟩ isSubtype_stop ?_)
  exact wpAny_pure (hQ _ he')
end
end PySem
namespace Toy
open PySem PySem.Spec PyProof.Rows L2
open Sem (wp)
/-- the enumerator, its tuple iterator; the last pair that it made is held by the list -/
def est (e it a S : Addr) (i : Nat) (h : Heap) : Prop := h.IsTupleIter it a i ∧ ((∃ old, IsEnum h e it ((i : Nat) : Int) old) ∨ ∃ old T f oT, IsEnumHeld h e it ((i : Nat) : Int) old T f ∧ h.get? T = some oT ∧ T ≠ e ∧ T ≠ it ∧ T ≠ S)
theorem est.at {e it a S : Addr} {i : Nat} {h h' : Heap} (n1 : S ≠ e) (n2 : S ≠ it) (k : ∀ b o, b ≠ S → h.get? b = some o → h'.get? b = some o) (st : est e it a S i h) : est e it a S i h' := by
  obtain ⟨h1, hz⟩ := st
  refine ⟨h1.at fun o q => k _ o (Ne.symm n2) q, ?_⟩
  rcases hz with ⟨old, hz⟩ | ⟨old, T, f, oT, hz, hT, r1, r2, r3⟩
  · exact .inl ⟨old, k _ _ (Ne.symm n1) hz⟩
  · exact .inr ⟨old, T, f, oT, k _ _ (Ne.symm n1) hz, k _ _ r3 hT, r1, r2, r3⟩
def IxAt (H : Hp) (ts : List Addr) (xs : List V) : Prop := ∀ (j : Nat) (t : Addr) (x : V), ts[j]? = some t → xs[j]? = some x → H t = some (.tup [.int (j : Nat), x])
theorem ext_enum {X : Cx} {pins : List (Addr × Obj)} {σ : L2.St} {e it a S : Addr} {A : Around} {R : Result → Shared → Prop} (hA : A.in1.in1.handled = none) (hai : a ≠ it) (hei : e ≠ it) (hea : e ≠ a) {xs : List V} (h1000 : xs.length ≤ 1000)
    (nS : S ≠ e ∧ S ≠ it) (res : Value) (H0 : Hp) (hq : ∀ H', But S H0 H' → SqT X.K H' a xs) :
    ∀ (k i : Nat) (s : Shared) (H : Hp) (ts : List Addr), xs.length - i = k → i ≤ xs.length → Inv X pins σ H s → (∀ b ∈ [e, it], FpOk X pins H b) → est e it a S i s.heap → But S H0 H →
    H S = some (.lst (ts.map V.ref)) → ts.length = i → IxAt H ts xs →
    (∀ s' H' ts', Inv X pins σ H' s' → But S H0 H' → H' S = some (.lst (ts'.map V.ref)) → ts'.length = xs.length → IxAt H' ts' xs → R (.ok (.ret res)) s') →
    codeAny (model X.prog X.w) A (.builtin "list.extend.loop" ⟨[.ref S, .ref e, res], []⟩) R s := by
  have hline : 1000 ≤ sizeLine := small (Nat.le_refl _)
  intro k
  induction k with
  | zero =>
    intro i s H ts hk hi I hf st hB hS hts hc hR
    have hin : i = xs.length := by omega
    obtain ⟨hit, hz⟩ := st
    have q1 := hq H hB
    obtain ⟨its, rv, p1, _⟩ := I.tuple q1
    have l1' := rv.length
    have e2 : i = its.toArray.size := by rw [List.size_toArray]; omega
    refine codeAny_builtin F.entry_extend_loop ?_
    rw [Around.under_plainId F.plain_extend_loop _]
    show wpAny _ A.in1 (pyNext (.ref e) >>= _) _ _ s
    refine wpAny_bind ?_
    have fin : ∀ h', Heap.ExtBut it s.heap h' → R (.ok (.ret res)) { s with heap := h' } := fun h' hk =>
      hR _ H ts (I.turnedL (t' := s.toks) (ch := [e, it]) (fun c o hb q => hk c o (fun q' => hb (by simp [q'])) q) hf) hB hS (by omega) hc
    rcases hz with ⟨old, hz⟩ | ⟨old, T, f, oT, hz, hT, r1, r2, r3⟩
    · rw [e2] at hit hz
      exact wpAny_pyNext_enum_endD (Draws.tuple hA it a hai its.toArray) hz ⟨hit, tup_is p1⟩ fun h' hk => wpAny_pure (fin h' hk)
    · rw [e2] at hit hz
      exact pyNext_enum_end_heldD (Draws.tuple hA it a hai its.toArray) hz ⟨hit, tup_is p1⟩ fun h' hk => wpAny_pure (fin h' hk)
  | succ k ih =>
    intro i s H ts hk hi I hf st hB hS hts hc hR
    have hlt : i < xs.length := by omega
    obtain ⟨hit, hz⟩ := st
    have q1 := hq H hB
    obtain ⟨its, rv, p1, _⟩ := I.tuple q1
    obtain ⟨u, hu, ru⟩ := rv.get (List.getElem?_eq_getElem hlt)
    have lt : ∀ {c o}, s.heap.get? c = some o → s.heap.objs.size ≠ c := fun e => Nat.ne_of_gt (Heap.lt_size e)
    have nit : s.heap.objs.size ≠ it := let ⟨_, e, _⟩ := hit; lt e
    have hfr : H s.heap.objs.size = none := I.hok.fresh (Nat.le_refl _)
    have nNS : S ≠ s.heap.objs.size := ne_of_none hS hfr
    refine codeAny_builtin F.entry_extend_loop ?_
    rw [Around.under_plainId F.plain_extend_loop _]
    show wpAny _ A.in1 (pyNext (.ref e) >>= _) _ _ s
    refine wpAny_bind ?_
    have ne : s.heap.objs.size ≠ e := by
      rcases hz with ⟨_, hz⟩ | ⟨_, _, _, _, hz, _⟩
      · exact lt hz
      · exact lt hz
    have hsz : i < its.toArray.size := by have h1 := rv.length; rw [List.size_toArray]; omega
    -- one step on
    have on : ∀ x' h' tk, its.toArray[i]? = some x' → h'.get? s.heap.objs.size = some { cls := .type "tuple", data := .seq #[.int i tk, x'] } → (∀ c o, c ≠ e → c ≠ it → s.heap.get? c = some o → h'.get? c = some o) → est e it a S (i + 1) h' →
        wpAny (model X.prog X.w) A.in1 (updateSeq S (·.push (.ref s.heap.objs.size)) >>= fun _ => again (.builtin "list.extend.loop" ⟨[.ref S, .ref e, res], []⟩))
          (fun fin s' => match fin with | .done f => R (.ok f) s' | .again c' => c'.quiet = true ∧ codeAny (model X.prog X.w) A c' R s') (fun e s' => R (.error e) s') { s with heap := h', toks := tk + 1 } := by
      intro x' h' tk hP a5 hk' st'
      have ex : x' = u := by
        have h1 : its[i]? = some x' := by simpa using hP
        rw [hu] at h1
        exact (Option.some.inj h1).symm
      subst ex
      have new : ObjOk X.prog X.w (upd H s.heap.objs.size (.tup [.int (i : Nat), xs[i]])) h' s.heap.objs.size (.tup [.int (i : Nat), xs[i]]) :=
        ⟨by show 2 ≤ sizeLine; decide, [.int i tk, x'], .cons ⟨_, rfl⟩ (.cons ru .nil), ⟨_, a5, rfl, _, rfl⟩⟩
      have I1 : Inv X pins σ (upd H s.heap.objs.size (.tup [.int (i : Nat), xs[i]])) { s with heap := h', toks := tk + 1 } :=
        I.turnedNew (t' := tk + 1) (ch := [e, it]) (fun c o hb q => hk' c o (fun q' => hb (by simp [q'])) (fun q' => hb (by simp [q'])) q) hf (Nat.le_refl _) new
      have hS1 : (upd H s.heap.objs.size (.tup [.int (i : Nat), xs[i]])) S = some (.lst (ts.map V.ref)) := by rw [upd_ne nNS]; exact hS
      obtain ⟨hz1, its3, n3, rv3, hl3, hS3⟩ := I1.lstM hS1
      have hl3' : its3.length = i := by rw [← hl3, List.length_map, hts]
      have I2 := I1.lset (f := (·.push (.ref s.heap.objs.size))) (ys := (ts ++ [s.heap.objs.size]).map V.ref) (its' := its3 ++ [.ref s.heap.objs.size]) (t' := tk + 1) hS1 hS3 (by simp) (by rw [List.map_append]; exact rv3.append (.cons rfl .nil)) (by rw [List.length_map, List.length_append, hts]; show i + 1 ≤ sizeLine; omega)
      refine wpAny_bind ?_
      refine wpAny_updateSeq hS3 rfl (wpAny_pure ⟨plainId_quiet F.plain_extend_loop _, ih (i + 1) _ _ (ts ++ [s.heap.objs.size]) (by omega) hlt I2 (fun b hb => ?_) (st'.at nS.1 nS.2 fun b o hb e => (Heap.get?_update_other _ _ (Ne.symm hb)).trans e) ?_ upd_same (by rw [List.length_append, hts] <;> rfl) ?_ hR⟩) (by rw [List.size_toArray]; omega) (by simp; omega)
      · have h0 := hf b hb
        refine ⟨?_, h0.2⟩
        have nb : b ≠ s.heap.objs.size := by
          simp only [List.mem_cons, List.not_mem_nil, or_false] at hb
          rcases hb with rfl | rfl
          · exact Ne.symm ne
          · exact Ne.symm nit
        have nb2 : b ≠ S := by
          simp only [List.mem_cons, List.not_mem_nil, or_false] at hb
          rcases hb with rfl | rfl
          · exact Ne.symm nS.1
          · exact Ne.symm nS.2
        rw [upd_ne nb2, upd_ne nb]
        exact h0.1
      · exact fun c o hc e => by
          have e' := hB c o hc e
          rw [upd_ne hc, upd_ne (ne_of_none e' hfr)]
          exact e'
      · intro j t x hj hx
        by_cases c : j < i
        · rw [List.getElem?_append_left (by omega)] at hj
          have h5 := hc j t x hj hx
          have nt : t ≠ S := ne_of h5 hS (by intro w; cases w)
          rw [upd_ne nt, upd_ne (ne_of_none h5 hfr)]
          exact h5
        · have hj2 := (List.getElem?_eq_some_iff.mp hj).1
          rw [List.length_append] at hj2
          have hj3 : j < ts.length + 1 := hj2
          have : j = i := by omega
          subst this
          rw [List.getElem?_append_right (by omega), hts, Nat.sub_self] at hj
          cases (Option.some.inj hj)
          rw [List.getElem?_eq_getElem hlt] at hx
          cases (Option.some.inj hx)
          rw [upd_ne (Ne.symm nNS), upd_same]
    have ei : ((i + 1 : Nat) : Int) = (i : Int) + 1 := by omega
    rcases hz with ⟨old, hz⟩ | ⟨old, T, f, oT, hz, hT, r1, r2, r3⟩
    · refine wpAny_pyNext_enum_itemD (Draws.tuple hA it a hai its.toArray) hz ⟨hit, tup_is p1⟩ hsz hei (by simp [hei, hea]) fun x' h' tk hP ho hst' hT' hsz' hk' => ?_
      exact on x' h' tk hP hT' hk' ⟨hst'.1, .inr ⟨x', s.heap.objs.size, false, _, by rw [ei]; exact ho, hT', ne, nit, Ne.symm nNS⟩⟩
    · refine pyNext_enum_heldD (Draws.tuple hA it a hai its.toArray) hz hT r1 r2 ⟨hit, tup_is p1⟩ hsz hei (by simp [hei, hea]) fun x' h' tk hP ho hst' hT' hsz' hk' => ?_
      exact on x' h' tk hP hT' hk' ⟨hst'.1, .inr ⟨old, T, true, oT, by rw [ei]; exact ho, hk' _ _ r1 r2 hT, r1, r2, r3⟩⟩
theorem list_of_enum {X : Cx} {pins : List (Addr × Obj)} {σ : L2.St} {H : Hp} {s : Shared} (I : Inv X pins σ H s) (hcalm : X.calm = true) {e it a : Addr} (hai : a ≠ it) (hei : e ≠ it) (hea : e ≠ a) {xs : List V} (h1000 : xs.length ≤ 1000)
    (he : IsEnum s.heap e it ((0 : Nat) : Int) .none) (hit : s.heap.IsTupleIter it a 0)
    (hf : ∀ b ∈ [e, it], FpOk X pins H b) (hq1 : SqT X.K H a xs) {Q : VK}
    (q : ∀ S ts H2, Same H H2 → H S = none → H2 S = some (.lst (ts.map V.ref)) → ts.length = xs.length → IxAt H2 ts xs → Q (.ref S) H2) :
    wpAny (model X.prog X.w) X.A (call (.type "list") [.ref e]) (EP X pins σ Q) X.xe s := by
  have hh : X.A.in1.in1.in1.handled = none := show X.A.handled = none from I.ok.hd hcalm
  have ne : s.heap.objs.size ≠ e := Nat.ne_of_gt (Heap.lt_size he)
  have nit : s.heap.objs.size ≠ it := let ⟨_, e, _⟩ := hit; Nat.ne_of_gt (Heap.lt_size e)
  have hfr : H s.heap.objs.size = none := I.hok.fresh (Nat.le_refl _)
  refine callType_codes (Q₁ := fun obj s₁ => obj = .ref s.heap.objs.size ∧ s₁ = { s with heap := s.heap.push { cls := .type "list", data := .seq #[] } }) F.called_list (F.typeCall_list_1 _) F.entry_list_init
    (code_list_new _ ⟨rfl, rfl⟩) fun obj s₁ h₁ => ?_
  obtain ⟨rfl, rfl⟩ := h₁
  have hS : (s.heap.push { cls := .type "list", data := .seq #[] }).get? s.heap.objs.size = some { cls := .type "list", data := .seq #[] } := Heap.get?_push_size _ rfl
  refine ⟨⟨_, hS, rfl⟩, F.args_list_init_2 _ _, ?_⟩
  show wpAny _ X.A.in1.in1 (do let old ← Builtin.List.listItems (.ref s.heap.objs.size); Builtin.List.listUpdate (.ref s.heap.objs.size) (fun _ => #[]); letGo old.toList.reverse; Builtin.List.listExtendWith (.ref s.heap.objs.size) (.ref e) .none) _ _ _
  refine wpAny_bind ?_
  unfold Builtin.List.listItems
  refine wpAny_bind (wpAny_seqItems hS rfl (wpAny_pure ?_))
  show wpAny _ X.A.in1.in1 (updateSeq s.heap.objs.size (fun _ => #[]) >>= fun _ => letGo (#[] : Array Value).toList.reverse >>= fun _ => Builtin.List.listExtendWith (.ref s.heap.objs.size) (.ref e) .none) _ _ _
  refine wpAny_bind (wpAny_updateSeq hS rfl ?_)
  have hS₂ := Heap.get?_update_self (Obj.mapSeq (fun _ => (#[] : Array Value))) hS rfl
  have oth : ∀ b o, b ≠ s.heap.objs.size → s.heap.get? b = some o → ((s.heap.push { cls := .type "list", data := .seq #[] }).update s.heap.objs.size (Obj.mapSeq (fun _ => (#[] : Array Value)))).get? b = some o :=
    fun b o hb e => (Heap.get?_update_other _ _ (Ne.symm hb)).trans (Heap.get?_push_of_some _ e)
  refine wpAny_bind (wpAny_letGo ?_)
  generalize hh2 : (s.heap.push { cls := .type "list", data := .seq #[] }).update s.heap.objs.size (Obj.mapSeq (fun _ => (#[] : Array Value))) = hp2 at hS₂ oth
  unfold Builtin.List.listExtendWith
  refine wpAny_bind (wpAny_typeOf (T := "enumerate") ⟨_, oth _ _ (Ne.symm ne) he, rfl⟩ ?_)
  have g1 : Builtin.List.listSameRef (.ref s.heap.objs.size) (.ref e) = false := by simp [Builtin.List.listSameRef, ne]
  have g2 : (Value.type "enumerate" == Value.type "list") = false := by decide
  have g3 : (Value.type "enumerate" == Value.type "tuple") = false := by decide
  simp only [g1, g2, g3, Bool.or_false, Bool.false_eq_true, if_false]
  refine wpAny_bind (wpAny_pyIter_enum (oth _ _ (Ne.symm ne) he) ?_)
  refine wpAny_bind (wpAny_holding ?_)
  unfold Builtin.List.listLengthHint
  refine wpAny_bind (wpAny_specialOf (T := "enumerate") ⟨_, oth _ _ (Ne.symm ne) he, rfl⟩ enum_no_len' ?_)
  show wpAny _ X.A.in1.in1 (specialOf (Value.ref e) (Str.ofString "__length_hint__") >>= _) _ _ _
  refine wpAny_bind (wpAny_specialOf (T := "enumerate") ⟨_, oth _ _ (Ne.symm ne) he, rfl⟩ enum_no_hint' ?_)
  refine wpAny_pure ?_
  show wpAny _ X.A.in1.in1 (rule "list.extend.makes-room" >>= fun _ => Builtin.List.listTouch (.ref s.heap.objs.size) >>= fun _ =>
    again (.builtin "list.extend.loop" ⟨[.ref s.heap.objs.size, .ref e, .none], []⟩)) _ _ _
  refine wpAny_bind (wpAny_rule ?_)
  refine wpAny_bind ?_
  show wpAny _ X.A.in1.in1 (updateSeq s.heap.objs.size (·.push .none) >>= fun _ => updateSeq s.heap.objs.size (·.pop)) _ _ _
  refine wpAny_bind (wpAny_updateSeq hS₂ rfl ?_)
  have hS₃ := Heap.get?_update_self (Obj.mapSeq (·.push Value.none)) hS₂ rfl
  refine wpAny_updateSeq (hz := by seq_fits) hS₃ rfl ?_
  have hS₄ := Heap.get?_update_self (Obj.mapSeq (·.pop)) hS₃ rfl
  have oth2 : ∀ b o, b ≠ s.heap.objs.size → s.heap.get? b = some o → ((hp2.update s.heap.objs.size (Obj.mapSeq (·.push Value.none))).update s.heap.objs.size (Obj.mapSeq (·.pop))).get? b = some o :=
    fun b o hb e => (Heap.get?_update_other _ _ (Ne.symm hb)).trans ((Heap.get?_update_other _ _ (Ne.symm hb)).trans (oth b o hb e))
  have new : ObjOk X.prog X.w (upd H s.heap.objs.size (.lst [])) ((hp2.update s.heap.objs.size (Obj.mapSeq (·.push Value.none))).update s.heap.objs.size (Obj.mapSeq (·.pop))) s.heap.objs.size (.lst []) :=
    ⟨Nat.zero_le _, [], _, .nil, hS₄⟩
  have I1 : Inv X pins σ (upd H s.heap.objs.size (.lst [])) { s with heap := (hp2.update s.heap.objs.size (Obj.mapSeq (·.push Value.none))).update s.heap.objs.size (Obj.mapSeq (·.pop)) } :=
    I.laid (t' := s.toks) (fun b u e => oth2 b u (Nat.ne_of_lt (Heap.lt_size e)) e) (Nat.le_refl _) new
  have S1 := same_new hfr (.lst [])
  refine wpAny_pure ⟨plainId_quiet F.plain_extend_loop _, ext_enum (A := X.A.in1) (R := wants (fun r s₂ => r = Value.none ∧ EP X pins σ Q (Value.ref s.heap.objs.size) s₂) X.xe) hh hai hei hea h1000 ⟨ne, nit⟩ .none (upd H s.heap.objs.size (.lst [])) (fun H' B' => ?_) (xs.length - 0) 0 _ _ [] rfl (Nat.zero_le _) I1 (fun b hb => ?_) ?_ But.refl upd_same rfl (fun j t x hj => by simp at hj) fun s' H' ts' I' B' hS' hl' hp' => ⟨rfl, .ref s.heap.objs.size, H', I', rfl, q _ ts' H' (but_same hfr S1 B') hfr hS' hl' hp'⟩⟩
  · exact same_tup (but_same hfr S1 B') hq1
  · have h0 := hf b hb
    refine ⟨?_, h0.2⟩
    have nb2 : b ≠ s.heap.objs.size := by
      simp only [List.mem_cons, List.not_mem_nil, or_false] at hb
      rcases hb with rfl | rfl
      · exact Ne.symm ne
      · exact Ne.symm nit
    rw [upd_ne nb2]
    exact h0.1
  · exact ⟨hit.at fun o q => oth2 _ o (Ne.symm nit) q, .inl ⟨.none, oth2 _ _ (Ne.symm ne) he⟩⟩
def tListEnT (K : PySem.W.Frag) (ta : TA) : TE := fun σ H Q => ta σ H fun vs H1 => ∃ a xs, vs = [.ref a] ∧ SqT K H1 a xs ∧ xs.length ≤ 1000 ∧
  ∀ S ts H2, Same H1 H2 → H1 S = none → H2 S = some (.lst (ts.map V.ref)) → ts.length = xs.length → IxAt H2 ts xs → Q (.ref S) H2
theorem pe_listEnT {X : Cx} {e : Expr} {ta : TA} {p p2 pos pos2 : Pos} (hc : X.calm = true) (hg0 : Gl X "list") (hm0 : X.mg "list" = none) (hg : Gl X "enumerate") (hm : X.mg "enumerate" = none) (ha : PA X [e] ta)
    (hs : starEach [e] X.env = (false, eval e X.env) :: starEach [] X.env := by rfl) (hpl : (backTo pos2 (starEach [] X.env)).any (·.1) = false := by rfl)
    (na : starEach [.Call (.Name "enumerate" p2) [e] [] pos2] X.env = (false, eval (.Call (.Name "enumerate" p2) [e] [] pos2) X.env) :: starEach [] X.env := by rfl) :
    PE X (.Call (.Name "list" p) [.Call (.Name "enumerate" p2) [e] [] pos2] [] pos) (tListEnT X.K ta) := by
  refine ⟨fun pins s σ H Q I h => ?_⟩
  refine Call_ (ld_blt I hg0 hm0 boot_list (PyProof.Rows.callWith_type1 (args_cons ?_ na) na))
  refine Call_ (ld_blt I hg hm boot_enumerate (PyProof.Rows.callWith_type1 (thn (ha.run pos2 pins s σ H _ I h) fun us s1 ⟨vs, H1, I1, r1, q1⟩ => ?_) hs hpl))
  obtain ⟨a, xs, ex, hqx, h1000, q⟩ := q1
  subst ex
  cases r1 with
  | cons r rr =>
    cases rr
    cases r
    obtain ⟨its, rv, p', hz⟩ := I1.tuple hqx
    have hal : a < s1.heap.objs.size := by obtain ⟨o, ho, _⟩ := p'; exact Heap.lt_size ho
    refine call_enumerate_tup (tup_is p') fun h' he hit hsz hk => args_nil ?_
    have I2 : Inv X pins σ H1 { s1 with heap := h' } := I1.kept (t' := s1.toks) hk
    refine list_of_enum (s := { s1 with heap := h' }) I2 hc (Nat.ne_of_lt hal) (Nat.succ_ne_self _) (Nat.ne_of_gt (Nat.lt_succ_of_lt hal)) h1000 he hit (fun b hb => ?_) hqx q
    have e' : b = s1.heap.objs.size + 1 ∨ b = s1.heap.objs.size := by simpa using hb
    have hle : s1.heap.objs.size ≤ b := by
      rcases e' with z | z
      · rw [z]; exact Nat.le_add_right _ _
      · rw [z]; exact Nat.le_refl _
    exact I1.fpOk hle (I1.hok.fresh hle)
/-- [.. for i, x in enumerate(t)], a tuple -/
theorem lc_enumT {K : PySem.W.Frag} {a : Addr} {xs : List V} {g : TG} {tt : TT} {te : TE} {vs : List Nat} {σ : L2.St} {H1 : Hp} {D : Addr} {Qd : Hp → Prop} (Pv : Nat → Hp → Prop) (h0 : Pv 0 (upd H1 D (.lst []))) (hl : ∀ i H, i ≤ xs.length → Pv i H → SqT K H a xs)
    (hs : ∀ (i : Nat) x (T : Addr) H, xs[i]? = some x → Pv i H → H T = none → g (.ref T) (wipe σ vs) (upd H T (.tup [.int i, x])) fun σ2 H2 => wipe σ2 vs = wipe σ vs ∧ tt σ2 H2 fun b H3 =>
      if b = true then te σ2 H3 fun y H4 => ∃ acc, H4 D = some (.lst acc) ∧ acc.length < sizeLine ∧ Pv (i + 1) (upd H4 D (.lst (acc ++ [y]))) else Pv (i + 1) H3) (hd : ∀ H, Pv xs.length H → Qd H) :
    ∃ W : Nat → Nat → Hp → Prop, (∃ m, W 0 m (upd H1 D (.lst []))) ∧ ∀ i m H, W i m H →
      ((IteT K a).stop i H ∧ Qd H) ∨ ((IteT K a).go i H ∧ ∃ Nx : Hp → Prop, (∀ H', Nx H' → ∃ m', m' < m ∧ W (i + 1) m' H') ∧ ∀ x H', (IteT K a).yld i H x H' → g x (wipe σ vs) H' fun σ2 H2 => wipe σ2 vs = wipe σ vs ∧ tt σ2 H2 fun b H3 =>
        if b = true then te σ2 H3 fun y H4 => ∃ acc, H4 D = some (.lst acc) ∧ acc.length < sizeLine ∧ Nx (upd H4 D (.lst (acc ++ [y]))) else Nx H3) := by
  refine lc_it (I := IteT K a) (n := xs.length) Pv h0 (fun i H hi p => ⟨xs, xs[i], hl i H (Nat.le_of_lt hi) p, List.getElem?_eq_getElem hi⟩) (fun H p => ⟨xs, hl _ H (Nat.le_refl _) p, rfl⟩) ?_ hd
  rintro i x H H' hi p ⟨T, z, rfl, hT, rfl, hz⟩
  exact hs i z T H (hz xs (hl i H (Nat.le_of_lt hi) p)) p hT
/-- [.. for x, y in zip(xs, ys)], two tuples -/
theorem lc_zipT {K : PySem.W.Frag} {a b : Addr} {xs ys : List V} {g : TG} {tt : TT} {te : TE} {vs : List Nat} {σ : L2.St} {H1 : Hp} {D : Addr} {Qd : Hp → Prop} (hl : xs.length = ys.length) (Pv : Nat → Hp → Prop) (h0 : Pv 0 (upd H1 D (.lst []))) (hq : ∀ i H, i ≤ xs.length → Pv i H → SqT K H a xs ∧ SqT K H b ys)
    (hs : ∀ (i : Nat) x y (T : Addr) H, xs[i]? = some x → ys[i]? = some y → Pv i H → H T = none → g (.ref T) (wipe σ vs) (upd H T (.tup [x, y])) fun σ2 H2 => wipe σ2 vs = wipe σ vs ∧ tt σ2 H2 fun b H3 =>
      if b = true then te σ2 H3 fun y H4 => ∃ acc, H4 D = some (.lst acc) ∧ acc.length < sizeLine ∧ Pv (i + 1) (upd H4 D (.lst (acc ++ [y]))) else Pv (i + 1) H3) (hd : ∀ H, Pv xs.length H → Qd H) :
    ∃ W : Nat → Nat → Hp → Prop, (∃ m, W 0 m (upd H1 D (.lst []))) ∧ ∀ i m H, W i m H →
      ((RZ.ItzT K a b).stop i H ∧ Qd H) ∨ ((RZ.ItzT K a b).go i H ∧ ∃ Nx : Hp → Prop, (∀ H', Nx H' → ∃ m', m' < m ∧ W (i + 1) m' H') ∧ ∀ x H', (RZ.ItzT K a b).yld i H x H' → g x (wipe σ vs) H' fun σ2 H2 => wipe σ2 vs = wipe σ vs ∧ tt σ2 H2 fun b H3 =>
        if b = true then te σ2 H3 fun y H4 => ∃ acc, H4 D = some (.lst acc) ∧ acc.length < sizeLine ∧ Nx (upd H4 D (.lst (acc ++ [y]))) else Nx H3) := by
  refine lc_it (I := RZ.ItzT K a b) (n := xs.length) Pv h0 (fun i H hi p => ?_) (fun H p => ?_) ?_ hd
  · obtain ⟨qx, qy⟩ := hq i H (Nat.le_of_lt hi) p
    exact ⟨xs, ys, _, _, qx, qy, List.getElem?_eq_getElem hi, List.getElem?_eq_getElem (by omega)⟩
  · obtain ⟨qx, qy⟩ := hq _ H (Nat.le_refl _) p
    exact ⟨xs, ys, qx, qy, .inl (Nat.le_refl _)⟩
  rintro i x H H' hi p ⟨T, z, w, rfl, hT, rfl, f1, f2⟩
  obtain ⟨qx, qy⟩ := hq i H (Nat.le_of_lt hi) p
  exact hs i z w T H (f1 xs qx) (f2 ys qy) p hT
end Toy
/-! ### tuple(enumerate(t)), t a tuple (wants enumt.inc, etl.inc) -/
namespace Toy
open PySem PySem.Spec PyProof.Rows L2
open Sem (wp)
theorem collect_enum {X : Cx} {pins : List (Addr × Obj)} {σ : L2.St} {H : Hp} {s : Shared} (I : Inv X pins σ H s) {A : Around} {E : Value → Shared → Prop} (hh : A.handled = none) {e it a : Addr} (hai : a ≠ it) (hei : e ≠ it) (hea : e ≠ a) {xs : List V} (h1000 : xs.length ≤ 1000)
    (he : IsEnum s.heap e it ((0 : Nat) : Int) .none) (hit : s.heap.IsTupleIter it a 0)
    (hf : ∀ b ∈ [e, it], FpOk X pins H b) (hq1 : SqT X.K H a xs) {Q : List Value → Shared → Prop}
    (q : ∀ s' H' ts vs, Inv X pins σ H' s' → Same H H' → ts.length = xs.length → IxAt H' ts xs → Vals (ts.map V.ref) vs → Q vs s') :
    wpAny (model X.prog X.w) A (collect (.ref e)) Q E s := by
  have ne : s.heap.objs.size ≠ e := Nat.ne_of_gt (Heap.lt_size he)
  have nit : s.heap.objs.size ≠ it := let ⟨_, e, _⟩ := hit; Nat.ne_of_gt (Heap.lt_size e)
  have hfr : H s.heap.objs.size = none := I.hok.fresh (Nat.le_refl _)
  unfold collect
  refine wpAny_bind (wpAny_runValue (codeAny_builtin F.entry_proto_collect ?_))
  rw [Around.under_plainId F.plain_proto_collect _]
  show wpAny _ A.in1 (newList [] >>= fun l' => again (.builtin "list.__iadd__" ⟨[l', .ref e], []⟩)) _ _ s
  refine wpAny_bind (wpAny_newObj_type ?_)
  refine wpAny_pure ⟨plainId_quiet F.plain_list_iadd _, codeAny_builtin F.entry_list_iadd ?_⟩
  rw [Around.under_plainId F.plain_list_iadd _]
  have hS₁ : (s.heap.push { cls := .type "list", data := .seq ([] : List Value).toArray }).get? s.heap.objs.size = some { cls := .type "list", data := .seq ([] : List Value).toArray } := Heap.get?_push_size _ rfl
  have oth : ∀ b o, s.heap.get? b = some o → (s.heap.push { cls := .type "list", data := .seq ([] : List Value).toArray }).get? b = some o := fun b o e => Heap.get?_push_of_some _ e
  have hT : ({ s with heap := s.heap.push { cls := .type "list", data := .seq ([] : List Value).toArray } } : Shared).TypeIs (.ref e) "enumerate" := ⟨_, oth _ _ he, rfl⟩
  have h1 : Builtin.List.listSameRef (.ref s.heap.objs.size) (.ref e) = false := by simp [Builtin.List.listSameRef, ne]
  show wpAny _ A.in1 (Builtin.List.listExtendWith (.ref s.heap.objs.size) (.ref e) (.ref s.heap.objs.size)) _ _ _
  unfold Builtin.List.listExtendWith
  refine wpAny_bind (wpAny_typeOf hT ?_)
  rw [if_neg (by rw [h1]; decide)]
  refine wpAny_bind (wpAny_pyIter_enum (s := { s with heap := s.heap.push { cls := .type "list", data := .seq ([] : List Value).toArray } }) (oth _ _ he) ?_)
  refine wpAny_bind (wpAny_holding ?_)
  unfold Builtin.List.listLengthHint
  refine wpAny_bind (wpAny_specialOf hT enum_no_len' ?_)
  show wpAny _ A.in1 (specialOf (Value.ref e) (Str.ofString "__length_hint__") >>= _) _ _ _
  refine wpAny_bind (wpAny_specialOf hT enum_no_hint' ?_)
  refine wpAny_pure ?_
  show wpAny _ A.in1 (rule "list.extend.makes-room" >>= fun _ => Builtin.List.listTouch (.ref s.heap.objs.size) >>= fun _ =>
    again (.builtin "list.extend.loop" ⟨[.ref s.heap.objs.size, .ref e, .ref s.heap.objs.size], []⟩)) _ _ _
  refine wpAny_bind (wpAny_rule ?_)
  refine wpAny_bind ?_
  show wpAny _ A.in1 (updateSeq s.heap.objs.size (·.push .none) >>= fun _ => updateSeq s.heap.objs.size (·.pop)) _ _ _
  refine wpAny_bind (wpAny_updateSeq hS₁ rfl ?_)
  have hS₃ := Heap.get?_update_self (Obj.mapSeq (·.push Value.none)) hS₁ rfl
  refine wpAny_updateSeq (hz := by seq_fits) hS₃ rfl ?_
  have hS₄ := Heap.get?_update_self (Obj.mapSeq (·.pop)) hS₃ rfl
  have oth2 : ∀ b o, b ≠ s.heap.objs.size → s.heap.get? b = some o → (((s.heap.push { cls := .type "list", data := .seq ([] : List Value).toArray }).update s.heap.objs.size (Obj.mapSeq (·.push Value.none))).update s.heap.objs.size (Obj.mapSeq (·.pop))).get? b = some o :=
    fun b o hb e => (Heap.get?_update_other _ _ (Ne.symm hb)).trans ((Heap.get?_update_other _ _ (Ne.symm hb)).trans (oth b o e))
  have new : ObjOk X.prog X.w (upd H s.heap.objs.size (.lst [])) (((s.heap.push { cls := .type "list", data := .seq ([] : List Value).toArray }).update s.heap.objs.size (Obj.mapSeq (·.push Value.none))).update s.heap.objs.size (Obj.mapSeq (·.pop))) s.heap.objs.size (.lst []) :=
    ⟨Nat.zero_le _, [], _, .nil, hS₄⟩
  have I1 : Inv X pins σ (upd H s.heap.objs.size (.lst [])) { s with heap := ((s.heap.push { cls := .type "list", data := .seq ([] : List Value).toArray }).update s.heap.objs.size (Obj.mapSeq (·.push Value.none))).update s.heap.objs.size (Obj.mapSeq (·.pop)) } :=
    I.laid (t' := s.toks) (fun b u e => oth2 b u (Nat.ne_of_lt (Heap.lt_size e)) e) (Nat.le_refl _) new
  have S1 := same_new hfr (.lst [])
  have hA : A.in1.in1.handled = none := hh
  refine wpAny_pure ⟨plainId_quiet F.plain_extend_loop _, ext_enum (A := A) hA hai hei hea h1000 ⟨ne, nit⟩ (.ref s.heap.objs.size) (upd H s.heap.objs.size (.lst [])) (fun H' B' => ?_) (xs.length - 0) 0 _ _ [] rfl (Nat.zero_le _) I1 (fun b hb => ?_) ?_ But.refl upd_same rfl (fun j t x hj => by simp at hj) fun s' H' ts' I' B' hS' hl' hp' => ?_⟩
  · exact same_tup (but_same hfr S1 B') hq1
  · have h0 := hf b hb
    refine ⟨?_, h0.2⟩
    have nb2 : b ≠ s.heap.objs.size := by
      simp only [List.mem_cons, List.not_mem_nil, or_false] at hb
      rcases hb with rfl | rfl
      · exact Ne.symm ne
      · exact Ne.symm nit
    rw [upd_ne nb2]
    exact h0.1
  · exact ⟨hit.at fun o q => oth2 _ o (Ne.symm nit) q, .inl ⟨.none, oth2 _ _ (Ne.symm ne) he⟩⟩
  · obtain ⟨hz1, its3, n3, rv3, hl3, hS3⟩ := I'.lstM hS'
    show wpAny _ A (load s.heap.objs.size >>= _) _ _ s'
    refine wpAny_bind (wpAny_load hS3 ?_)
    refine wpAny_pure ?_
    exact q s' H' ts' _ I' (but_same hfr S1 B') hl' hp' (by simpa using rv3)
theorem code_tuple_new_enum {X : Cx} {pins : List (Addr × Obj)} {σ : L2.St} {H : Hp} {s : Shared} (I : Inv X pins σ H s) {A : Around} {E : Value → Shared → Prop} (hh : A.handled = none) {e it a : Addr} (hai : a ≠ it) (hei : e ≠ it) (hea : e ≠ a) {xs : List V} (h1000 : xs.length ≤ 1000)
    (he : IsEnum s.heap e it ((0 : Nat) : Int) .none) (hit : s.heap.IsTupleIter it a 0)
    (hf : ∀ b ∈ [e, it], FpOk X pins H b) (hq1 : SqT X.K H a xs) {Q₁ : Value → Shared → Prop}
    (h : ∀ s' T ts H2, Inv X pins σ H2 s' → s'.TypeIs (.ref T) "tuple" → Same H H2 → H T = none → H2 T = some (.tup (ts.map V.ref)) → ts.length = xs.length → IxAt H2 ts xs → Q₁ (.ref T) s') :
    codeAny (model X.prog X.w) A (.call (.builtin "tuple.__new__") ⟨[.type "tuple", .ref e], []⟩) (wants Q₁ E) s := by
  refine codeAny_of_tree ?_
  show wpAny _ A.in1 (do checkBuiltinCall "tuple.__new__" ⟨[.type "tuple", .ref e], []⟩; again (.builtin "tuple.__new__" ⟨[.type "tuple", .ref e], []⟩)) _ _ s
  refine wpAny_bind (wpAny_of_eq (F.newCall_tuple_1 _) (wpAny_pure ⟨plainId_quiet F.plain_tuple_new _, codeAny_builtin F.entry_tuple_new ?_⟩))
  rw [Around.under_plainId F.plain_tuple_new _]
  have hsub := sub_tuple_self
  have hinit := init_tuple_lookup
  have hmh := madeHere_tuple
  have hTI : s.TypeIs (.ref e) "enumerate" := ⟨_, he, rfl⟩
  have hh1 : A.in1.handled = none := hh
  wp_walk using wpAny_typeOf hTI, collect_enum I (A := A.in1) hh1 hai hei hea h1000 he hit hf hq1
  intro s' H' ts vs I' S' hl' hp' rv'
  have hvl : vs.length = xs.length := by rw [← rv'.length, List.length_map, hl']
  have hsl : vs.length ≤ sizeLine := by rw [hvl]; exact Nat.le_trans h1000 (small (Nat.le_refl _))
  show wpAny _ _ (Builtin.Tuple.tupleExact vs.toArray >>= fun v => ret v) _ _ _
  unfold Builtin.Tuple.tupleExact
  refine wpAny_bind (wpAny_newObj_type ?_ (by show vs.toArray.size ≤ sizeLine; simpa using hsl))
  refine wpAny_pure ?_
  have hfr' : H' s'.heap.objs.size = none := I'.hok.fresh (Nat.le_refl _)
  have gT : (s'.heap.push { cls := .type "tuple", data := .seq vs.toArray }).get? s'.heap.objs.size = some { cls := .type "tuple", data := .seq vs.toArray } := Heap.get?_push_size _ rfl
  have new : ObjOk X.prog X.w (upd H' s'.heap.objs.size (.tup (ts.map V.ref))) (s'.heap.push { cls := .type "tuple", data := .seq vs.toArray }) s'.heap.objs.size (.tup (ts.map V.ref)) :=
    ⟨by rw [List.length_map, hl', ← hvl]; exact hsl, vs, rv', ⟨_, gT, rfl, _, rfl⟩⟩
  have I2 : Inv X pins σ (upd H' s'.heap.objs.size (.tup (ts.map V.ref))) { s' with heap := s'.heap.push { cls := .type "tuple", data := .seq vs.toArray } } :=
    I'.laid (t' := s'.toks) (fun b u e => Heap.get?_push_of_some _ e) (Nat.le_refl _) new
  have hfr0 : H s'.heap.objs.size = none := by
    cases hc : H s'.heap.objs.size with
    | none => rfl
    | some o => exact absurd (S' _ o hc) (by rw [hfr']; intro w; cases w)
  refine h _ _ ts _ I2 ⟨_, gT, rfl⟩ ?_ hfr0 upd_same hl' ?_
  · exact S'.trans (same_new hfr' _)
  · exact fun j t x hj hx => by
      have h5 := hp' j t x hj hx
      rw [upd_ne (ne_of_none h5 hfr')]
      exact h5
theorem call_tuple_enum {X : Cx} {pins : List (Addr × Obj)} {σ : L2.St} {H : Hp} {s : Shared} (I : Inv X pins σ H s) (hcalm : X.calm = true) {e it a : Addr} (hai : a ≠ it) (hei : e ≠ it) (hea : e ≠ a) {xs : List V} (h1000 : xs.length ≤ 1000)
    (he : IsEnum s.heap e it ((0 : Nat) : Int) .none) (hit : s.heap.IsTupleIter it a 0)
    (hf : ∀ b ∈ [e, it], FpOk X pins H b) (hq1 : SqT X.K H a xs) {Q : VK}
    (q : ∀ T ts H2, Same H H2 → H T = none → H2 T = some (.tup (ts.map V.ref)) → ts.length = xs.length → IxAt H2 ts xs → Q (.ref T) H2) :
    wpAny (model X.prog X.w) X.A (call (.type "tuple") [.ref e]) (EP X pins σ Q) X.xe s := by
  have hh : X.A.in1.handled = none := show X.A.handled = none from I.ok.hd hcalm
  refine callType_codes (Q₁ := fun obj s₁ => s₁.TypeIs obj "tuple" ∧ EP X pins σ Q obj s₁) F.called_tuple (F.typeCall_tuple_1 _) F.entry_object_init
    (code_tuple_new_enum I (A := X.A.in1) hh hai hei hea h1000 he hit hf hq1 fun s' T ts H2 I' hty S' hn hT' hl' hp' => ⟨hty, .ref T, H2, I', rfl, q T ts H2 S' hn hT' hl' hp'⟩) fun obj s₁ h₁ => ?_
  exact ⟨h₁.1, F.args_object_init_2 obj _, object_init_meets F.called_tuple.init.lookup F.called_tuple.made (by decide) X.prog X.w X.A.in1 _ s₁ ⟨h₁.1, rfl, h₁.2⟩⟩
def tTupEnT (K : PySem.W.Frag) (ta : TA) : TE := fun σ H Q => ta σ H fun vs H1 => ∃ a xs, vs = [.ref a] ∧ SqT K H1 a xs ∧ xs.length ≤ 1000 ∧
  ∀ T ts H2, Same H1 H2 → H1 T = none → H2 T = some (.tup (ts.map V.ref)) → ts.length = xs.length → IxAt H2 ts xs → Q (.ref T) H2
theorem pe_tupEnT {X : Cx} {e : Expr} {ta : TA} {p p2 pos pos2 : Pos} (hc : X.calm = true) (hg0 : Gl X "tuple") (hm0 : X.mg "tuple" = none) (hg : Gl X "enumerate") (hm : X.mg "enumerate" = none) (ha : PA X [e] ta)
    (hs : starEach [e] X.env = (false, eval e X.env) :: starEach [] X.env := by rfl) (hpl : (backTo pos2 (starEach [] X.env)).any (·.1) = false := by rfl)
    (na : starEach [.Call (.Name "enumerate" p2) [e] [] pos2] X.env = (false, eval (.Call (.Name "enumerate" p2) [e] [] pos2) X.env) :: starEach [] X.env := by rfl) :
    PE X (.Call (.Name "tuple" p) [.Call (.Name "enumerate" p2) [e] [] pos2] [] pos) (tTupEnT X.K ta) := by
  refine ⟨fun pins s σ H Q I h => ?_⟩
  refine Call_ (ld_blt I hg0 hm0 boot_tuple (PyProof.Rows.callWith_type1 (args_cons ?_ na) na))
  refine Call_ (ld_blt I hg hm boot_enumerate (PyProof.Rows.callWith_type1 (thn (ha.run pos2 pins s σ H _ I h) fun us s1 ⟨vs, H1, I1, r1, q1⟩ => ?_) hs hpl))
  obtain ⟨a, xs, ex, hqx, h1000, q⟩ := q1
  subst ex
  cases r1 with
  | cons r rr =>
    cases rr
    cases r
    obtain ⟨its, rv, p', hz⟩ := I1.tuple hqx
    have hal : a < s1.heap.objs.size := by obtain ⟨o, ho, _⟩ := p'; exact Heap.lt_size ho
    refine call_enumerate_tup (tup_is p') fun h' he hit hsz hk => args_nil ?_
    have I2 : Inv X pins σ H1 { s1 with heap := h' } := I1.kept (t' := s1.toks) hk
    refine call_tuple_enum (s := { s1 with heap := h' }) I2 hc (Nat.ne_of_lt hal) (Nat.succ_ne_self _) (Nat.ne_of_gt (Nat.lt_succ_of_lt hal)) h1000 he hit (fun b hb => ?_) hqx q
    have e' : b = s1.heap.objs.size + 1 ∨ b = s1.heap.objs.size := by simpa using hb
    have hle : s1.heap.objs.size ≤ b := by
      rcases e' with z | z
      · rw [z]; exact Nat.le_add_right _ _
      · rw [z]; exact Nat.le_refl _
    exact I1.fpOk hle (I1.hok.fresh hle)
end Toy
/-! ### xs[::-1] of a list -/
namespace Toy
open PySem PySem.Spec PyProof.Rows L2
def tRevL (K : PySem.W.Frag) (te : TE) : TE := fun σ H Q => te σ H fun x H1 => ∃ a xs, x = .ref a ∧ SqL K H1 a xs ∧ ∀ p, H1 p = none → Q (.ref p) (upd H1 p (.lst xs.reverse))
theorem pickR {its : List Value} : slicePick its.toArray none none (some (-1)) = its.reverse.toArray := by
  unfold slicePick
  congr 1
  have e : sliceBounds none none (some (-1)) its.toArray.size = ((its.length : Int) - 1, -1, -1) := by
    simp only [sliceBounds, Option.getD_some, List.size_toArray]
    rfl
  rw [e]
  dsimp only
  unfold sliceRange
  have h1 : ¬ ((-1 : Int) > 0) := by decide
  simp only [h1, if_false]
  have hc : (if (its.length : Int) - 1 > -1 then ((its.length : Int) - 1 - -1 - -1 - 1) / (- -1) else 0).toNat = its.length := by
    split
    · rw [show (- -1 : Int) = 1 by decide, Int.ediv_one]; omega
    · omega
  rw [hc, List.filterMap_map]
  apply List.ext_getElem?
  intro i
  have key : ∀ n, n ≤ its.length → (List.range n).filterMap ((fun j => its.toArray[j]?) ∘ fun k : Nat => ((its.length : Int) - 1 + -1 * (k : Int)).toNat) = its.reverse.take n := by
    intro n
    induction n with
    | zero => intro _; rfl
    | succ n ih =>
      intro h
      have hn : n < its.reverse.length := by rw [List.length_reverse]; omega
      rw [List.range_succ, List.filterMap_append, ih (by omega), List.take_succ, List.getElem?_eq_getElem hn]
      congr 1
      rw [List.filterMap_cons, List.filterMap_nil]
      have e2 : ((fun j => its.toArray[j]?) ∘ fun k : Nat => ((its.length : Int) - 1 + -1 * (k : Int)).toNat) n = some its.reverse[n] := by
        show its.toArray[((its.length : Int) - 1 + -1 * (n : Int)).toNat]? = _
        rw [show ((its.length : Int) - 1 + -1 * (n : Int)).toNat = its.length - 1 - n by omega, List.getElem_reverse, List.getElem?_toArray, List.getElem?_eq_getElem (by omega)]
      rw [e2] <;> rfl
  have k2 := key its.length (Nat.le_refl _)
  rw [List.take_of_length_le (by rw [List.length_reverse]; exact Nat.le_refl _)] at k2
  exact congrArg (fun l => l[i]?) k2
theorem pe_revL {X : Cx} {e : Expr} {te : TE} {k : Nat} {p1 p2 p3 pos : Pos} (he : PE X e te) : PE X (.Subscript e (.Slice none none (some (.UnaryOp .USub (.Constant (.int 1) k p1) p2)) p3) pos) (tRevL X.K te) := by
  refine ⟨fun pins s σ H Q I h => ?_⟩
  refine Subscript_ (thn (he.run pins s σ H _ I h) fun v s1 ⟨x, H1, I1, r1, q1⟩ => ?_)
  obtain ⟨a, xs, ex, hx, q⟩ := q1
  subst ex
  cases r1
  have hst : PO X (some (.UnaryOp .USub (.Constant (.int 1) k p1) p2)) (tPart _) := po_some (pe_un un_neg pe_int)
  refine wpAny_Slice (thn (po_none.run pins s1 σ H1 (fun o H2 => o = none ∧ H2 = H1) I1 ⟨rfl, rfl⟩) fun vl s2 ⟨l, H2, I2, pl, el, e2⟩ => ?_)
  subst el e2
  refine thn (po_none.run pins s2 σ H2 (fun o H3 => o = none ∧ H3 = H2) I2 ⟨rfl, rfl⟩) fun vu s3 ⟨u, H3, I3, pu, eu, e3⟩ => ?_
  subst eu e3
  refine thn (hst.run pins s3 σ H3 (fun o H4 => o = some (-1) ∧ H4 = H3) I3 ?_) fun vs s4 ⟨o, H4, I4, ps, eo, e4⟩ => ?_
  · exact ⟨_, rfl, _, rfl, rfl, rfl⟩
  subst eo e4
  have I5 : Inv X pins σ H4 { s4 with heap := s4.heap.push { cls := .type "slice", data := .fields #[vl, vu, vs] } } := I4.kept (t' := s4.toks) fun b ob q => Heap.get?_push_of_some _ q
  obtain ⟨its, r, ht, hz⟩ := I5.list hx
  have hlen := r.length
  show wpAny (model X.prog X.w) X.A (subscriptTail e (.Slice none none (some (.UnaryOp .USub (.Constant (.int 1) k p1) p2)) p3) (.ref a) (.ref s4.heap.objs.size)) (EP X pins σ Q) X.xe { s4 with heap := s4.heap.push { cls := .type "slice", data := .fields #[vl, vu, vs] } }
  refine tail_any (ops := [.ref a, .ref s4.heap.objs.size]) ht.isList.typeIs (PySem.slot_list_getitem.lookup) ?_ (by with_unfolding_all rfl)
  refine wpAny_getItem_list_slice ht.isList (Heap.IsSliceOf.new _ vl vu vs) pl pu ps (by decide) ?_ (by rw [List.size_toArray]; omega)
  rw [pickR]
  refine ⟨.ref _, _, I5.laid (t' := s4.toks) (o := .lst xs.reverse) (fun b ob q => Heap.get?_push_of_some _ q) (Nat.le_refl _) ?_, rfl, q _ (I5.hok.fresh (Nat.le_refl _))⟩
  exact ⟨by rw [List.length_reverse]; exact hz, _, 0, Vals.reverse r, Heap.get?_push_size _ rfl⟩
end Toy
namespace Toy
open PySem PySem.Spec PyProof.Rows L2
end Toy
/-! ### tuples: t + u and t[a:b] of any kind -/
namespace Toy
open PySem PySem.Spec PyProof.Rows L2
def rCatU : R2 := fun x y H Q => ∃ a b xs ys, x = .ref a ∧ y = .ref b ∧ H a = some (.tup xs) ∧ H b = some (.tup ys) ∧ xs.length + ys.length ≤ sizeLine ∧ ∀ p H', Same H H' → H' p = some (.tup (xs ++ ys)) → Q (.ref p) H'
theorem op_catU {X : Cx} : OpR X (binaryOp .Add) rCatU := by
  intro pins s σ H x y v u Q I rx ry h
  obtain ⟨a, b, xs, ys, rfl, rfl, ha, hb, hz, q⟩ := h
  refine op_catA pins s σ H _ _ v u Q I rx ry ⟨a, b, xs, ys, rfl, rfl, SqT.of ha, SqT.of hb, hz, fun e => ?_, fun _ e => ?_, fun _ _ p hp => q p _ (same_new hp _) upd_same⟩
  · subst e
    exact q b H (fun _ _ z => z) (by rw [hb, List.nil_append])
  · subst e
    exact q a H (fun _ _ z => z) (by rw [ha, List.append_nil])
def rSlU : V → Option Int → Option Int → Hp → VK → Prop := fun x lo hi H Q => ∃ a xs, x = .ref a ∧ H a = some (.tup xs) ∧ ∀ p H', Same H H' → H' p = some (.tup (cutV xs lo hi)) → Q (.ref p) H'
theorem sl_tupU {X : Cx} : SlR X rSlU := by
  intro pins s σ H x v vl vu lo hi sl Q I rx hs pl pu h
  obtain ⟨a, xs, rfl, ha, q⟩ := h
  refine sl_tupA pins s σ H _ v vl vu lo hi sl Q I rx hs pl pu ⟨a, xs, rfl, SqT.of ha, fun e => ?_, fun _ p hp => q p _ (same_new hp _) upd_same⟩
  refine q a H (fun _ _ z => z) ?_
  rw [ha]
  have : cutV xs lo hi = xs := by
    unfold cutV
    rw [e.1, e.2, List.drop_zero, Nat.sub_zero, List.take_length]
  rw [this]
end Toy
/-! ### data that is compared: no truths in it -/
namespace Toy
open PySem PySem.Spec PyProof.Rows L2
mutual
def nb : PyData → Bool
  | .none => true
  | .bool _ => false
  | .int _ => true
  | .str _ => true
  | .list ds => nbs ds
  | .tuple ds => nbs ds
  | .dict _ => false
def nbs : List PyData → Bool
  | [] => true
  | d :: ds => nb d && nbs ds
end
theorem nbs_of : ∀ {ds : List PyData}, (∀ d ∈ ds, nb d = true) → nbs ds = true
  | [], _ => by simp [nbs]
  | d :: ds, h => by simp [nbs, h d List.mem_cons_self, nbs_of (ds := ds) fun x hx => h x (List.mem_cons_of_mem _ hx)]
mutual
theorem eqv_nb : ∀ d e : PyData, nb d = true → nb e = true → PyData.eqv d e = true → d = e
  | .none, e, _, h, q => by cases e <;> simp_all [PyData.eqv, nb]
  | .int i, e, _, h, q => by cases e <;> simp_all [PyData.eqv, nb]
  | .str x, e, _, h, q => by cases e <;> simp_all [PyData.eqv, nb]
  | .bool _, _, h, _, _ => by simp [nb] at h
  | .dict _, _, h, _, _ => by simp [nb] at h
  | .list ds, e, h, g, q => by
    cases e with
    | list es =>
      rw [PyData.eqv] at q
      exact congrArg PyData.list (eqvs_nb ds es (by simpa [nb] using h) (by simpa [nb] using g) q)
    | _ => simp [PyData.eqv] at q
  | .tuple ds, e, h, g, q => by
    cases e with
    | tuple es =>
      rw [PyData.eqv] at q
      exact congrArg PyData.tuple (eqvs_nb ds es (by simpa [nb] using h) (by simpa [nb] using g) q)
    | _ => simp [PyData.eqv] at q
theorem eqvs_nb : ∀ ds es : List PyData, nbs ds = true → nbs es = true → PyData.eqvAll ds es = true → ds = es
  | [], [], _, _, _ => rfl
  | [], _ :: _, _, _, q => by simp [PyData.eqvAll] at q
  | _ :: _, [], _, _, q => by simp [PyData.eqvAll] at q
  | d :: ds, e :: es, h, g, q => by
    simp only [nbs, Bool.and_eq_true] at h g
    simp only [PyData.eqvAll, Bool.and_eq_true] at q
    rw [eqv_nb d e h.1 g.1 q.1, eqvs_nb ds es h.2 g.2 q.2]
end
structure Ly (n : Nat) (d : PyData) : Prop where
  can : d.canLay0 = true
  dep : d.depth ≤ n
  no : nb d = true
theorem Ly.non {n : Nat} : Ly n .none := ⟨by simp [PyData.canLay0], by simp [PyData.depth], by simp [nb]⟩
theorem Ly.int {n : Nat} {i : Int} : Ly n (.int i) := ⟨by simp [PyData.canLay0], by simp [PyData.depth], by simp [nb]⟩
theorem Ly.str {n : Nat} {x : Str} (h : (PyData.str x).canLay0 = true := by decide +kernel) : Ly n (.str x) := ⟨h, by simp [PyData.depth], by simp [nb]⟩
theorem Ly.mono {n m : Nat} {d : PyData} (a : Ly n d) (h : n ≤ m) : Ly m d := ⟨a.can, Nat.le_trans a.dep h, a.no⟩
theorem can_all : ∀ {ds : List PyData}, (∀ d ∈ ds, d.canLay0 = true) → PyData.canLayAll0 ds = true
  | [], _ => by simp [PyData.canLayAll0]
  | d :: ds, h => by simp [PyData.canLayAll0, h d List.mem_cons_self, can_all (ds := ds) fun x hx => h x (List.mem_cons_of_mem _ hx)]
theorem dep_all {n : Nat} : ∀ {ds : List PyData}, (∀ d ∈ ds, d.depth ≤ n) → PyData.depthAll ds ≤ n
  | [], _ => by simp [PyData.depthAll]
  | d :: ds, h => by
    have h1 := h d List.mem_cons_self
    have h2 := dep_all (ds := ds) fun x hx => h x (List.mem_cons_of_mem _ hx)
    simp only [PyData.depthAll]
    omega
theorem Ly.lst {n : Nat} {ds : List PyData} (h : ∀ d ∈ ds, Ly n d) : Ly (n + 1) (.list ds) :=
  ⟨by simp only [PyData.canLay0]; exact can_all fun d hd => (h d hd).can, by simp only [PyData.depth]; have := dep_all fun d hd => (h d hd).dep; omega, by simp only [nb]; exact nbs_of fun d hd => (h d hd).no⟩
theorem Ly.tup {n : Nat} {ds : List PyData} (h : ∀ d ∈ ds, Ly n d) : Ly (n + 1) (.tuple ds) :=
  ⟨by simp only [PyData.canLay0]; exact can_all fun d hd => (h d hd).can, by simp only [PyData.depth]; have := dep_all fun d hd => (h d hd).dep; omega, by simp only [nb]; exact nbs_of fun d hd => (h d hd).no⟩
theorem Ly.tupI {ns : List Int} : Ly 1 (.tuple (ns.map PyData.int)) := .tup fun d hd => by obtain ⟨i, _, rfl⟩ := List.mem_map.mp hd; exact .int
theorem Ly.lstI {ns : List Int} : Ly 1 (.list (ns.map PyData.int)) := .lst fun d hd => by obtain ⟨i, _, rfl⟩ := List.mem_map.mp hd; exact .int
theorem Ly.tup2 {n : Nat} {a b : PyData} (ha : Ly n a) (hb : Ly n b) : Ly (n + 1) (.tuple [a, b]) := .tup fun d hd => by
  rcases List.mem_cons.mp hd with rfl | hd
  · exact ha
  · cases List.mem_singleton.mp hd; exact hb
theorem Ly.sh {n : Nat} {d : PyData} (a : Ly n d) (h : n ≤ 64 := by decide) : SeqAt.shaped d = true := by
  show (d.canLay0 && decide (d.depth ≤ 64)) = true
  rw [a.can, decide_eq_true (Nat.le_trans a.dep h)] <;> rfl
theorem Ly.refl {n : Nat} {d : PyData} (a : Ly n d) (h : n ≤ 64 := by decide) : PyData.eqv d d = true := SeqAt.eqv_refl _ (SeqAt.canLay_of_shaped (a.sh h))
theorem Ly.eq {n m : Nat} {d e : PyData} (a : Ly n d) (b : Ly m e) (h : PyData.eqv d e = true) : d = e := eqv_nb d e a.no b.no h
theorem Ly.ne {n m : Nat} {d e : PyData} (a : Ly n d) (b : Ly m e) (h : d ≠ e) : PyData.eqv d e = false := by
  cases c : PyData.eqv d e with
  | false => rfl
  | true => exact absurd (a.eq b c) h
theorem dpAll_of {K : PySem.W.Frag} {H : Hp} : ∀ {xs : List V} {ds : List PyData}, xs.length = ds.length → (∀ (i : Nat) (x : V) (d : PyData), xs[i]? = some x → ds[i]? = some d → Dp K H x d) → DpAll K H xs ds
  | [], [], _, _ => .nil
  | [], _ :: _, h, _ => by simp at h
  | _ :: _, [], h, _ => by simp at h
  | x :: xs, d :: ds, h, q => .cons (q 0 x d rfl rfl) (dpAll_of (by simpa using h) fun i y e h1 h2 => q (i + 1) y e (by simpa using h1) (by simpa using h2))
theorem dp_tup2 {K : PySem.W.Frag} {H : Hp} {p : Addr} {x y : V} {a b : PyData} (h : SqT K H p [x, y]) (ha : Dp K H x a) (hb : Dp K H y b) : Dp K H (.ref p) (.tuple [a, b]) := .tup h (.cons ha (.cons hb .nil))
/-! ### lists of things beside [] (wants odd0) -/
def rNeNil (K : PySem.W.Frag) : R2 := fun x y H Q => ∃ a b ys, x = .ref a ∧ y = .ref b ∧ SqL K H a ys ∧ SqL K H b [] ∧ Q (.bl (!ys.isEmpty)) H
def rEqNil (K : PySem.W.Frag) : R2 := fun x y H Q => ∃ a b ys, x = .ref a ∧ y = .ref b ∧ SqL K H a ys ∧ SqL K H b [] ∧ Q (.bl ys.isEmpty) H
theorem op_neNil {X : Cx} {K : PySem.W.Frag} (hu : X.A.units + 64 < cLine) (eK : X.K = K := by rfl) : OpR X (compareOp .NotEq) (rNeNil K) := by
  cases eK
  intro pins s σ H x y v u Q I rx ry h
  obtain ⟨a, b, ys, rfl, rfl, ha, hb, q⟩ := h
  cases rx
  cases ry
  obtain ⟨its, rv, hl, _⟩ := I.list ha
  obtain ⟨its2, rv2, hl2, _⟩ := I.list hb
  cases rv2
  cases rv with
  | nil => exact SeqAt.RcNeAt.lists (e := fun _ => true) hl.isList hl2.isList rfl (by omega) (fun j h1 h2 => absurd h1 (Nat.not_lt_zero _)) _ _ _ _ ⟨.bl _, H, I, rfl, q⟩
  | cons r rs => exact SeqAt.RcNeAt.lists_lengths hl.isList hl2.isList (by simp) (by omega) _ _ _ _ ⟨.bl _, H, I, rfl, q⟩
theorem op_eqNil {X : Cx} {K : PySem.W.Frag} (hu : X.A.units + 64 < cLine) (eK : X.K = K := by rfl) : OpR X (compareOp .Eq) (rEqNil K) := by
  cases eK
  intro pins s σ H x y v u Q I rx ry h
  obtain ⟨a, b, ys, rfl, rfl, ha, hb, q⟩ := h
  cases rx
  cases ry
  obtain ⟨its, rv, hl, _⟩ := I.list ha
  obtain ⟨its2, rv2, hl2, _⟩ := I.list hb
  cases rv2
  cases rv with
  | nil => exact SeqAt.RcAt.lists (e := fun _ => true) hl.isList hl2.isList rfl (by omega) (fun j h1 h2 => absurd h1 (Nat.not_lt_zero _)) _ _ _ _ ⟨.bl _, H, I, rfl, q⟩
  | cons r rs => exact SeqAt.RcAt.lists_lengths hl.isList hl2.isList (by simp) (by omega) _ _ _ _ ⟨.bl _, H, I, rfl, q⟩
end Toy
/-! ### dicts by tuples: {t: v}, tuple(d), dict(rows) -/
namespace Toy
open PySem PySem.Spec PyProof.Rows L2
open Sem (wp)
theorem RoomG.u1 {k : Nat} {A : Around} (r : RoomG k A) : A.units + 1 < cLine := by have := r.units; omega
theorem RoomG.u2 {k : Nat} {A : Around} (r : RoomG k A) : A.units + 2 < cLine := by have := r.units; omega
/-- a dict of one row, its key a tuple -/
def tDispT (tk tv : TE) : TE := fun σ H Q => ∀ p, H p = none → tk σ (upd H p (.dT [])) fun x H1 => tv σ H1 fun y H2 => ∃ (b : Addr) (k : List Key), x = .ref b ∧ H2 p = some (.dT []) ∧ H2 b = some (.tup (k.map kV)) ∧ Q (.ref p) (upd H2 p (.dT [(k, y)]))
def dispQ (p : Addr) (Q : VK) : List (V × V) → Hp → Prop
  | [(x, y)], H2 => ∃ (b : Addr) (k : List Key), x = .ref b ∧ H2 p = some (.dT []) ∧ H2 b = some (.tup (k.map kV)) ∧ Q (.ref p) (upd H2 p (.dT [(k, y)]))
  | _, _ => False
theorem pe_dispT {X : Cx} {pos : Pos} {k v : Expr} {tk tv : TE} (hu : X.A.units + 1 < cLine) (hk : PE X k tk) (hv : PE X v tv) : PE X (.Dict [some k] [v] pos) (tDispT tk tv) := by
  refine ⟨fun pins s σ H Q I q => ?_⟩
  have hn := I.hok.fresh (Nat.le_refl s.heap.objs.size)
  have I1 := I.laid (a := s.heap.objs.size) (o := .dT []) (h' := s.heap.push { cls := .type "dict", data := .dict #[] }) (t' := s.toks) (fun _ _ q => Heap.get?_push_of_some _ q) (Nat.le_refl _) (dt_empty s.heap I.big)
  have R := (pps_cons (pos := pos) hk hv pps_nil).run pins _ σ _ (dispQ s.heap.objs.size Q) I1 (q _ hn)
  have hsh := zip_pairTrees [some k] [v] X.env pos rfl rfl
  have hlen : (pairTrees [some k] [v] X.env pos).length ≤ 15 := by rw [pairTrees_length _ _ _ _ rfl rfl]; show 1 ≤ 15; decide
  have h0 : pairTrees [some k] [v] X.env pos ≠ [] := fun e => by
    have := pairTrees_length [some k] [v] X.env pos rfl rfl
    rw [e] at this
    cases this
  rw [arm_eval_Dict, hsh, dictDisplay_pairs _ h0 (by omega)]
  refine wpAny_bind (wpAny_standAt (wpAny_bind (wpAny_subDictH (knd := tupleKind (mixKind X.prog X.w)) (Q := fun d s' => wpAny (model X.prog X.w) X.A (pure (Value.ref d)) (EP X pins σ Q) X.xe s') (show (tupleKind (mixKind X.prog X.w)).room X.A from (by show X.A.units < cLine; omega)) hlen
    (wpAny_mono R (fun vs s1 h1 => ?_) fun _ _ e => e))))
  obtain ⟨ps, H2, I2, rel, qq⟩ := h1
  match ps, rel, qq with
  | [(x, y)], rel, qq =>
    obtain ⟨b, ky, rfl, e, eb, q2⟩ := qq
    cases rel with
    | @cons p1 p2 _ _ hr tl =>
      cases tl
      obtain ⟨u, w⟩ := p2
      obtain ⟨r1, r2⟩ := hr
      cases (show u = Value.ref b from r1)
      obtain ⟨z, hd, xs, r0, dd⟩ := dt_of I2.hok e
      cases r0
      refine ⟨[(ky, b, w)], ⟨rfl, rfl, key_of I2.hok eb, trivial⟩, dd, fun h' tk dd' hs => wpAny_pure ⟨.ref s.heap.objs.size, _, ?_, rfl, q2⟩⟩
      obtain ⟨o, es, ep, hq, h2, h3, h4, _, h5⟩ := dd'
      refine d_write I2 (by rw [e]; exact True.intro) hs ⟨o, hq⟩ ⟨by show 1 ≤ sizeLine; decide, hd, [(ky, b, w)], .cons ⟨rfl, ?_, r2⟩ .nil, o, es, ep, hq, h2, h3, h4, h5⟩
      rw [upd_ne (ne_of eb e (fun z => nomatch z))]
      exact eb
/-- the keys of a dict by tuples, as a tuple -/
theorem keysDT {X : Cx} {pins : List (Addr × Obj)} {σ : L2.St} {H : Hp} {s : Shared} {d : Addr} {kvs : List (List Key × V)} (I : Inv X pins σ H s) (hd : H d = some (.dT kvs)) : kvs.length ≤ sizeLine ∧ (d == sysModules) = false ∧
    ∃ (ks : List (List Key × Addr × Value)) (o : Obj) (es : Array DictEntry) (ep : Nat), KT H kvs ks ∧ s.heap.get? d = some o ∧ o.ExactDict ∧ o.data = .dict es ep ∧ es.toList = ks.map (entryOfKey (tupleKind (mixKind X.prog X.w))) := by
  obtain ⟨z, hs, ks, pr, o, es, ep, ho, hx, hdt, he, _⟩ := (show ObjOk X.prog X.w H s.heap d (.dT kvs) from I.hok d _ hd)
  exact ⟨z, hs, ks, o, es, ep, pr, ho, hx, hdt, he⟩
theorem accDT {X : Cx} {es : Array DictEntry} {ks : List (List Key × Addr × Value)} (he : es.toList = ks.map (entryOfKey (tupleKind (mixKind X.prog X.w)))) {acc : Array Value}
    (it : ItemsOf (fun i v => ∃ en : DictEntry, es[i]? = some en ∧ v = en.key) acc es.size) : acc.toList = (ks.map fun x => x.2.1).map Value.ref := by
  have l1 : es.size = ks.length := size_of_entries he
  have hl : acc.toList.length = ks.length := by rw [Array.length_toList, it.1]; exact l1
  refine List.ext_getElem? fun j => ?_
  rw [List.map_map, List.getElem?_map]
  cases hj : acc.toList[j]? with
  | none =>
    have h1 := List.getElem?_eq_none_iff.mp hj
    rw [List.getElem?_eq_none (by omega)] <;> rfl
  | some v =>
    obtain ⟨en, hen, hv⟩ := it.2 j v (by rw [← Array.getElem?_toList]; exact hj)
    have qe := entry_at he j
    rw [hen] at qe
    cases hb : ks[j]? with
    | none =>
      rw [hb] at qe
      exact nomatch (show some en = none from qe)
    | some b =>
      rw [hb] at qe
      rw [hv, Option.some.inj qe] <;> rfl
theorem code_tup_dT {X : Cx} {pins : List (Addr × Obj)} {σ : L2.St} {H : Hp} {s : Shared} (I : Inv X pins σ H s) {A : Around} {E : Value → Shared → Prop} (hh : A.handled = none) {d : Addr} {kvs : List (List Key × V)} (hd : H d = some (.dT kvs)) {Q₁ : Value → Shared → Prop}
    (q : ∀ s' T bs, Inv X pins σ (upd H T (.tup (bs.map V.ref))) s' → s'.TypeIs (.ref T) "tuple" → H T = none → IsKeys H kvs bs → Q₁ (.ref T) s') :
    codeAny (model X.prog X.w) A (.call (.builtin "tuple.__new__") ⟨[.type "tuple", .ref d], []⟩) (wants Q₁ E) s := by
  obtain ⟨z, hs, ks, o, es, ep, pr, ho, hx, hdt, he⟩ := keysDT I hd
  have l2 : kvs.length = ks.length := Paired.length pr
  have l1 : es.size = ks.length := size_of_entries he
  have hes : es.size ≤ sizeLine := by omega
  refine codeAny_of_tree ?_
  show wpAny _ A.in1 (do checkBuiltinCall "tuple.__new__" ⟨[.type "tuple", .ref d], []⟩; again (.builtin "tuple.__new__" ⟨[.type "tuple", .ref d], []⟩)) _ _ s
  refine wpAny_bind (wpAny_of_eq (F.newCall_tuple_1 _) (wpAny_pure ⟨plainId_quiet F.plain_tuple_new _, codeAny_builtin F.entry_tuple_new ?_⟩))
  rw [Around.under_plainId F.plain_tuple_new _]
  have hsub := sub_tuple_self
  have hinit := init_tuple_lookup
  have hmh := madeHere_tuple
  have hTI : s.TypeIs (.ref d) "dict" := ⟨o, ho, hx.1⟩
  have hh1 : A.in1.handled = none := hh
  wp_walk using wpAny_typeOf hTI, PySem.W.kdu_collect (A := A.in1) (kdl_raw hs hx hdt) hh1 ho hes
  intro h' tk acc kp it
  have ea := accDT he it
  have hsl : acc.toList.length ≤ sizeLine := by rw [ea, List.length_map, List.length_map]; omega
  show wpAny _ _ (Builtin.Tuple.tupleExact acc.toList.toArray >>= fun v => ret v) _ _ _
  unfold Builtin.Tuple.tupleExact
  refine wpAny_bind (wpAny_newObj_type ?_ (by show acc.toList.toArray.size ≤ sizeLine; simpa using hsl))
  refine wpAny_pure ?_
  have I' : Inv X pins σ H { s with heap := h', toks := tk } := I.kept (t' := tk) kp
  have hfr' : H h'.objs.size = none := I'.hok.fresh (Nat.le_refl _)
  have gT : (h'.push { cls := .type "tuple", data := .seq acc.toList.toArray }).get? h'.objs.size = some { cls := .type "tuple", data := .seq acc.toList.toArray } := Heap.get?_push_size _ rfl
  have rv : Vals ((ks.map fun x => x.2.1).map V.ref) acc.toList := by rw [ea]; exact vals_refs _
  have I2 : Inv X pins σ (upd H h'.objs.size (.tup ((ks.map fun x => x.2.1).map V.ref))) { s with heap := h'.push { cls := .type "tuple", data := .seq acc.toList.toArray }, toks := tk } :=
    I'.laid (t' := tk) (fun b u e => Heap.get?_push_of_some _ e) (Nat.le_refl _) ⟨by rw [rv.length]; exact hsl, acc.toList, rv, ⟨_, gT, rfl, _, rfl⟩⟩
  exact q _ _ _ I2 ⟨_, gT, rfl⟩ hfr' (isKeys_of pr)
def rTupDT : List V → Hp → VK → Prop := fun xs H Q => ∃ d kvs, xs = [V.ref d] ∧ H d = some (.dT kvs) ∧ ∀ T bs, H T = none → IsKeys H kvs bs → Q (.ref T) (upd H T (.tup (bs.map V.ref)))
theorem call_tup_dT {X : Cx} (hcalm : X.calm = true) : CallR X (.type "tuple") rTupDT := by
  intro pins s σ H xs us Q I r h
  obtain ⟨d, kvs, rfl, hd, q⟩ := h
  obtain ⟨u, rfl, rx⟩ := r.one
  cases rx
  have hh : X.A.in1.handled = none := show X.A.handled = none from I.ok.hd hcalm
  refine callType_codes (Q₁ := fun obj s₁ => s₁.TypeIs obj "tuple" ∧ EP X pins σ Q obj s₁) F.called_tuple (F.typeCall_tuple_1 _) F.entry_object_init
    (code_tup_dT I (A := X.A.in1) hh hd fun s' T bs I' hty hn hk => ⟨hty, .ref T, _, I', rfl, q T bs hn hk⟩) fun obj s₁ h₁ => ?_
  exact ⟨h₁.1, F.args_object_init_2 obj _, object_init_meets F.called_tuple.init.lookup F.called_tuple.made (by decide) X.prog X.w X.A.in1 _ s₁ ⟨h₁.1, rfl, h₁.2⟩⟩
/-- rows of a key tuple and a value -/
def RowsDT (H : Hp) (ps : List Addr) (rows : List (List Key × Addr × V)) : Prop := ps.length = rows.length ∧ ∀ (j : Nat) (p : Addr) (q : List Key × Addr × V), ps[j]? = some p → rows[j]? = some q → H p = some (.tup [.ref q.2.1, q.2.2]) ∧ H q.2.1 = some (.tup (q.1.map kV))
def putsK (acc : List (List Key × V)) (rows : List (List Key × Addr × V)) : List (List Key × V) := rows.foldl (fun acc q => putK acc q.1 q.2.2) acc
theorem putsK_len : ∀ (rows : List (List Key × Addr × V)) (acc : List (List Key × V)), (putsK acc rows).length ≤ acc.length + rows.length
  | [], acc => by show acc.length ≤ acc.length + 0; omega
  | q :: rows, acc => by
    have h1 := putsK_len rows (putK acc q.1 q.2.2)
    have h2 := length_putK acc q.1 q.2.2
    show (putsK (putK acc q.1 q.2.2) rows).length ≤ _
    rw [List.length_cons]
    omega
abbrev RV : List (List Key × Addr × V) → List (List Key × Addr × Value) → Prop := Paired fun q p => p.1 = q.1 ∧ p.2.1 = q.2.1 ∧ RelV q.2.2 p.2.2
theorem rows_vals {X : Cx} {pins : List (Addr × Obj)} {σ : L2.St} {H : Hp} {s : Shared} (I : Inv X pins σ H s) : ∀ {ps : List Addr} {rows : List (List Key × Addr × V)}, RowsDT H ps rows →
    ∃ prs : List (List Key × Addr × Value), RV rows prs ∧ ∀ (j : Nat) (q : List Key × Addr × Value), prs[j]? = some q → ∃ b : Addr, ps[j]? = some b ∧ IsTup s.heap b #[.ref q.2.1, q.2.2]
  | [], [], _ => ⟨[], .nil, fun j q h => by simp at h⟩
  | [], _ :: _, h => by simp [RowsDT] at h
  | _ :: _, [], h => by simp [RowsDT] at h
  | p :: ps, q :: rows, h => by
    obtain ⟨prs, r, hp⟩ := rows_vals I (ps := ps) (rows := rows) ⟨by simpa using h.1, fun j a b e1 e2 => h.2 (j + 1) a b (by simpa using e1) (by simpa using e2)⟩
    obtain ⟨h1, _⟩ := h.2 0 p q rfl rfl
    obtain ⟨its, rv, ht, _⟩ := I.tuple (SqT.of (K := X.K) h1)
    obtain ⟨u, y, ei, ru, ry⟩ := vals2 rv
    subst ei
    cases (show u = Value.ref q.2.1 from ru)
    refine ⟨(q.1, q.2.1, y) :: prs, .cons ⟨rfl, rfl, ry⟩ r, fun j z e => ?_⟩
    cases j with
    | zero => cases (Option.some.inj e); exact ⟨p, rfl, ht⟩
    | succ j => exact hp j z (by simpa using e)
theorem kt_puts {H : Hp} {rows : List (List Key × Addr × V)} {prs : List (List Key × Addr × Value)} {acc : List (List Key × V)} {xs : List (List Key × Addr × Value)} (r : RV rows prs) (hk : ∀ q ∈ rows, H q.2.1 = some (.tup (q.1.map kV))) (k : KT H acc xs) : KT H (putsK acc rows) (storedAllH xs prs) := by
  unfold RV at r
  induction r generalizing acc xs with
  | nil => exact k
  | @cons q p qs ps' h t ih =>
    obtain ⟨h1, h2, h3⟩ := h
    refine ih (acc := putK acc q.1 q.2.2) (xs := storedH xs p.1 p.2.1 p.2.2) (fun z hz => hk z (List.mem_cons_of_mem _ hz)) ?_
    rw [h1, h2]
    exact k.put q.1 (hk q List.mem_cons_self) h3
theorem call_dictPT {X : Cx} (hcalm : X.calm = true) (hu : X.A.units + 2 < cLine) : CallR X (.type "dict") (fun xs H Q => ∃ (a : Addr) (ps : List Addr) (rows : List (List Key × Addr × V)), xs = [.ref a] ∧ H a = some (.lst (ps.map V.ref)) ∧ RowsDT H ps rows ∧
    ∀ p, H p = none → Q (.ref p) (upd H p (.dT (putsK [] rows)))) := by
  intro pins s σ H xs us Q I r h
  obtain ⟨a, ps, rows, rfl, ha, hr, q⟩ := h
  obtain ⟨u, rfl, rx⟩ := r.one
  cases rx
  obtain ⟨its, rv, pl, hz⟩ := I.list (SqL.of (K := X.K) ha)
  have ei := L2.refs_at rv
  subst ei
  rw [List.length_map] at hz
  obtain ⟨prs, rel, hpr⟩ := rows_vals I hr
  have hl : prs.length = ps.length := by rw [← Paired.length rel, hr.1]
  obtain ⟨o, n, ho, hc, hd, hdat⟩ := pl
  have tupk : ∀ q ∈ rows, H q.2.1 = some (.tup (q.1.map kV)) := fun q hq => by
    obtain ⟨j, hj, rfl⟩ := List.getElem_of_mem hq
    exact (hr.2 j (ps[j]'(by rw [hr.1]; exact hj)) _ (List.getElem?_eq_getElem _) (List.getElem?_eq_getElem hj)).2
  have keyp : ∀ p ∈ prs, IsTupleKey (mixKind X.prog X.w) s.heap p.1 p.2.1 := by
    have : ∀ {rows : List (List Key × Addr × V)} {prs : List (List Key × Addr × Value)}, RV rows prs → (∀ q ∈ rows, H q.2.1 = some (.tup (q.1.map kV))) → ∀ p ∈ prs, IsTupleKey (mixKind X.prog X.w) s.heap p.1 p.2.1 := by
      intro rows prs r
      induction r with
      | nil => intro _ p hp; exact absurd hp List.not_mem_nil
      | @cons q p qs ps' h t ih =>
        intro hk z hz
        rcases List.mem_cons.mp hz with rfl | hz
        · rw [h.1, h.2.1]
          exact key_of I.hok (hk q List.mem_cons_self)
        · exact ih (fun y hy => hk y (List.mem_cons_of_mem _ hy)) z hz
    exact this rel tupk
  refine call_dict_pairsH (knd := tupleKind (mixKind X.prog X.w)) (ps := prs) (PairArg.list a (ps.map Value.ref).toArray (fun j => ps.getD j 0) (prs.map fun q => (.ref q.2.1, q.2.2))) (I.ok.hd hcalm) (show X.A.units + 1 + 1 < cLine by omega)
    ⟨⟨o, n, ho, hc, hd, hdat⟩, ?_, ?_⟩ ⟨?_, ?_⟩ ?_ (by rw [List.length_map, hl]; exact hz) fun h' tk hd' k => ?_
  · simp [hl]
  · intro j k v e
    rw [List.getElem?_map] at e
    obtain ⟨z, hz2, e2⟩ := Option.map_eq_some_iff.mp e
    cases e2
    obtain ⟨b, e1, ht⟩ := hpr j z hz2
    have ej : ps.getD j 0 = b := by rw [List.getD_eq_getElem?_getD, e1] <;> rfl
    show _ = some (Value.ref (ps.getD j 0)) ∧ PairAt s.heap (ps.getD j 0) _ _
    rw [ej]
    exact ⟨by simp [e1], .inl ht⟩
  · rw [List.length_map]
  · intro i key v e
    have e' : (prs.map fun q => ((Value.ref q.2.1, q.2.2) : Value × Value))[i]? = some (key, v) := e
    rw [List.getElem?_map] at e'
    obtain ⟨z, hz2, e2⟩ := Option.map_eq_some_iff.mp e'
    cases e2
    exact ⟨z.1, z.2.1, hz2, rfl⟩
  · intro h' hk x hx
    obtain ⟨ob, its2, n2, ho2, r2⟩ := keyp x hx
    exact ⟨ob, its2, n2, hk _ _ (Nat.ne_of_lt (Heap.lt_size ho2)) (by simp) ho2, r2⟩
  · have hm : (s.heap.objs.size == sysModules) = false := beq_eq_false_iff_ne.mpr (Nat.ne_of_gt I.big)
    have hn := I.hok.fresh (Nat.le_refl s.heap.objs.size)
    refine ⟨.ref s.heap.objs.size, upd H s.heap.objs.size (.dT (putsK [] rows)), I.laid (t' := tk) (fun b o e => k b o (by simp) e) (Nat.le_refl _) (show ObjOk X.prog X.w _ _ _ (.dT (putsK [] rows)) from ⟨?_, hm, storedAllH [] prs, ?_, ?_⟩), rfl, q _ hn⟩
    · have := putsK_len rows []
      rw [List.length_nil, Nat.zero_add, ← hr.1] at this
      omega
    · exact (kt_puts rel tupk .nil).keeps fun b ys e => by rw [upd_ne (ne_of_none e hn)]; exact e
    · obtain ⟨o, es, ep, hq, h2, h3, h4, _, h5⟩ := hd'
      exact ⟨o, es, ep, hq, h2, h3, h4, h5⟩
/-! ### tuple(d.values()), list(d.values()), d a dict by tuples -/
/-- the view of the values of the dict at d -/
def valsO (p d : Addr) : HO := .ext fun h => h.IsValuesView p d
theorem valsO_of {P : Program} {w : World} {H : Hp} {h : Heap} {p d : Addr} (e : h.get? p = some { cls := .type "dict_values", data := .fields #[.ref d] }) : ObjOk P w H h p (valsO p d) :=
  ⟨⟨_, e, rfl, rfl⟩, ⟨_, e⟩, fun h1 h2 x k => by obtain ⟨o, ho, r⟩ := x; exact ⟨o, k o ho, r⟩⟩
def rValT : V → List V → Hp → VK → Prop := fun x xs H Q => ∃ a kvs, x = V.ref a ∧ xs = [] ∧ H a = some (.dT kvs) ∧ ∀ p, H p = none → Q (.ref p) (upd H p (valsO p a))
theorem mt_valT {X : Cx} : MtR X "dict.values" rValT := by
  intro pins s σ H x xs v us Q I rx rxs h
  obtain ⟨a, kvs, rfl, rfl, ha, q⟩ := h
  cases rx
  cases rxs
  obtain ⟨_, hs, ks, o, es, ep, _, ho, hx, hdt, _⟩ := keysDT I ha
  have hn : H s.heap.objs.size = none := I.hok.fresh (Nat.le_refl _)
  refine call_meetsIn PySem.F.slot_dict_values (T := "dict") ⟨o, ho, hx.1⟩ PySem.F.entry_dict_values (PySem.F.args_dict_values_1 _) (PySem.meets_dict_values_raw a hs) ⟨⟨es, ep, o, ho, hx, hdt⟩, ?_⟩
  exact ⟨.ref s.heap.objs.size, upd H s.heap.objs.size (valsO s.heap.objs.size a), I.laid (t' := s.toks) (fun b u e => Heap.get?_push_of_some _ e) (Nat.le_refl _) (valsO_of (Heap.get?_push_size _ rfl)), rfl, q _ hn⟩
theorem accVT {X : Cx} {H : Hp} {kvs : List (List Key × V)} {es : Array DictEntry} {ks : List (List Key × Addr × Value)} (pr : KT H kvs ks) (he : es.toList = ks.map (entryOfKey (tupleKind (mixKind X.prog X.w)))) {acc : Array Value}
    (it : ItemsOf (fun i v => ∃ hi : i < es.size, v = es[i].val) acc es.size) : Vals (kvs.map fun kv => kv.2) acc.toList := by
  have l1 : es.size = ks.length := size_of_entries he
  have e1 : acc.toList = ks.map fun x => x.2.2 := by
    have hl : acc.toList.length = ks.length := by rw [Array.length_toList, it.1]; exact l1
    refine List.ext_getElem? fun j => ?_
    rw [List.getElem?_map]
    cases hj : acc.toList[j]? with
    | none =>
      have h1 := List.getElem?_eq_none_iff.mp hj
      rw [List.getElem?_eq_none (by omega)] <;> rfl
    | some v =>
      obtain ⟨hi, hv⟩ := it.2 j v (by rw [← Array.getElem?_toList]; exact hj)
      have qe := entry_at he j
      have e0 : es[j]? = some es[j] := Array.getElem?_eq_getElem hi
      cases hb : ks[j]? with
      | none =>
        have := List.getElem?_eq_none_iff.mp hb
        omega
      | some b =>
        have qe2 : some es[j] = some (entryOfKey (tupleKind (mixKind X.prog X.w)) b) := by rw [← e0, qe, hb] <;> rfl
        rw [hv, Option.some.inj qe2] <;> rfl
  rw [e1]
  clear e1 it he l1
  induction pr with
  | nil => exact .nil
  | cons h t ih => exact .cons h.2.2 ih
def rTupVals : List V → Hp → VK → Prop := fun xs H Q => ∃ p d kvs, xs = [V.ref p] ∧ H p = some (valsO p d) ∧ H d = some (.dT kvs) ∧ ∀ T, H T = none → Q (.ref T) (upd H T (.tup (kvs.map fun kv => kv.2)))
theorem code_tup_vals {X : Cx} {pins : List (Addr × Obj)} {σ : L2.St} {H : Hp} {s : Shared} (I : Inv X pins σ H s) {A : Around} {E : Value → Shared → Prop} (hh : A.handled = none) {p d : Addr} {kvs : List (List Key × V)} (hp : H p = some (valsO p d)) (hd : H d = some (.dT kvs)) {Q₁ : Value → Shared → Prop}
    (q : ∀ s' T, Inv X pins σ (upd H T (.tup (kvs.map fun kv => kv.2))) s' → s'.TypeIs (.ref T) "tuple" → H T = none → Q₁ (.ref T) s') :
    codeAny (model X.prog X.w) A (.call (.builtin "tuple.__new__") ⟨[.type "tuple", .ref p], []⟩) (wants Q₁ E) s := by
  obtain ⟨z, hs, ks, o, es, ep, pr, ho, hx, hdt, he⟩ := keysDT I hd
  have view : s.heap.IsValuesView p d := (show ObjOk X.prog X.w H s.heap p (valsO p d) from I.hok p _ hp).1
  have l2 : kvs.length = ks.length := Paired.length pr
  have l1 : es.size = ks.length := size_of_entries he
  have hes : es.size ≤ sizeLine := by omega
  refine codeAny_of_tree ?_
  show wpAny _ A.in1 (do checkBuiltinCall "tuple.__new__" ⟨[.type "tuple", .ref p], []⟩; again (.builtin "tuple.__new__" ⟨[.type "tuple", .ref p], []⟩)) _ _ s
  refine wpAny_bind (wpAny_of_eq (F.newCall_tuple_1 _) (wpAny_pure ⟨plainId_quiet F.plain_tuple_new _, codeAny_builtin F.entry_tuple_new ?_⟩))
  rw [Around.under_plainId F.plain_tuple_new _]
  have hsub := sub_tuple_self
  have hinit := init_tuple_lookup
  have hmh := madeHere_tuple
  have hTI : s.TypeIs (.ref p) "dict_values" := view.typeIs
  have hh1 : A.in1.handled = none := hh
  have raw : s.heap.DictRaw d es ep := ⟨o, ho, hx, hdt⟩
  wp_walk using wpAny_typeOf hTI, PySem.W.kdu_collect (A := A.in1) PySem.KdlSrc.rawValues hh1 ⟨view, raw⟩ hes
  intro h' tk acc kp it
  have rv := accVT pr he it
  have hsl : acc.toList.length ≤ sizeLine := by rw [← rv.length, List.length_map]; omega
  show wpAny _ _ (Builtin.Tuple.tupleExact acc.toList.toArray >>= fun v => ret v) _ _ _
  unfold Builtin.Tuple.tupleExact
  refine wpAny_bind (wpAny_newObj_type ?_ (by show acc.toList.toArray.size ≤ sizeLine; simpa using hsl))
  refine wpAny_pure ?_
  have I' : Inv X pins σ H { s with heap := h', toks := tk } := I.kept (t' := tk) kp
  have hfr' : H h'.objs.size = none := I'.hok.fresh (Nat.le_refl _)
  have gT : (h'.push { cls := .type "tuple", data := .seq acc.toList.toArray }).get? h'.objs.size = some { cls := .type "tuple", data := .seq acc.toList.toArray } := Heap.get?_push_size _ rfl
  have I2 : Inv X pins σ (upd H h'.objs.size (.tup (kvs.map fun kv => kv.2))) { s with heap := h'.push { cls := .type "tuple", data := .seq acc.toList.toArray }, toks := tk } :=
    I'.laid (t' := tk) (fun b u e => Heap.get?_push_of_some _ e) (Nat.le_refl _) ⟨by rw [rv.length]; exact hsl, acc.toList, rv, ⟨_, gT, rfl, _, rfl⟩⟩
  exact q _ _ I2 ⟨_, gT, rfl⟩ hfr'
theorem call_tup_vals {X : Cx} (hcalm : X.calm = true) : CallR X (.type "tuple") rTupVals := by
  intro pins s σ H xs us Q I r h
  obtain ⟨p, d, kvs, rfl, hp, hd, q⟩ := h
  obtain ⟨u, rfl, rx⟩ := r.one
  cases rx
  have hh : X.A.in1.handled = none := show X.A.handled = none from I.ok.hd hcalm
  refine callType_codes (Q₁ := fun obj s₁ => s₁.TypeIs obj "tuple" ∧ EP X pins σ Q obj s₁) F.called_tuple (F.typeCall_tuple_1 _) F.entry_object_init
    (code_tup_vals I (A := X.A.in1) hh hp hd fun s' T I' hty hn => ⟨hty, .ref T, _, I', rfl, q T hn⟩) fun obj s₁ h₁ => ?_
  exact ⟨h₁.1, F.args_object_init_2 obj _, object_init_meets F.called_tuple.init.lookup F.called_tuple.made (by decide) X.prog X.w X.A.in1 _ s₁ ⟨h₁.1, rfl, h₁.2⟩⟩
def rLstVals : List V → Hp → VK → Prop := fun xs H Q => ∃ p d kvs, xs = [V.ref p] ∧ H p = some (valsO p d) ∧ H d = some (.dT kvs) ∧ ∀ T, H T = none → Q (.ref T) (upd H T (.lst (kvs.map fun kv => kv.2)))
theorem call_lst_vals {X : Cx} (hcalm : X.calm = true) : CallR X (.type "list") rLstVals := by
  intro pins s σ H xs us Q I r h
  obtain ⟨p, d, kvs, rfl, hp, hd, q⟩ := h
  obtain ⟨u, rfl, rx⟩ := r.one
  cases rx
  obtain ⟨z, hs, ks, o, es, ep, pr, ho, hx, hdt, he⟩ := keysDT I hd
  have view : s.heap.IsValuesView p d := (show ObjOk X.prog X.w H s.heap p (valsO p d) from I.hok p _ hp).1
  have l2 : kvs.length = ks.length := Paired.length pr
  have l1 : es.size = ks.length := size_of_entries he
  refine PySem.W.kdl_call PySem.KdlSrc.rawValues (I.ok.hd hcalm) ⟨view, o, ho, hx, hdt⟩ (by omega) fun h' tk acc c kp e it => ?_
  have rv := accVT pr he it
  refine ⟨.ref s.heap.objs.size, _, I.laid (t' := tk) (o := .lst (kvs.map fun kv => kv.2)) kp (Nat.le_refl _) ?_, rfl, q _ (I.hok.fresh (Nat.le_refl _))⟩
  exact ⟨by rw [List.length_map]; omega, acc.toList, c, rv, by rw [Array.toArray_toList]; exact e⟩
def tVals (b : Bool) (te : TE) : TE := fun σ H Q => te σ H fun x H1 => ∃ a kvs, x = V.ref a ∧ H1 a = some (.dT kvs) ∧ ∀ p T H2, Same H1 H2 → H2 T = some (if b then .tup (kvs.map fun kv => kv.2) else .lst (kvs.map fun kv => kv.2)) → H1 p = none → T ≠ p → H1 T = none → Q (.ref T) H2
end Toy
namespace L2
open PySem PySem.Spec PyProof.Rows
/-! ### set(xs), xs a list of ints (mine; wants HandS.SetFor) -/
section
variable {P : Program} {w : World} {A : Around} {E : Value → Shared → Prop} {s : Shared}
abbrev bareSet (w : World) : Obj := { cls := .type "set", dict := none, data := .set #[] 0 (.fresh 0 0 (!w.params.followText "set-order")) }
/-- what __init__ does with such a list -/
theorem init_set_list {l S : Addr} {items : Array Value} {ns : List Int} {R : Result → Shared → Prop} (hh : A.handled = none) (hl : s.heap.IsList l items) (hi : IntsAre items.toList ns) (hb : ns.length + 1 < scanBound) (hS : s.heap.get? S = some (bareSet w)) (hne : S ≠ l)
    (h : ∀ (h' : Heap) (tk c : Nat), SetR w h' S (fun j => decide (j ∈ ns)) c → c ≤ ns.length → (∀ b o, b ≠ S → s.heap.get? b = some o → h'.get? b = some o) → R (.ok (.ret .none)) { s with heap := h', toks := tk }) :
    codeAny (model P w) A (.builtin "set.update.loop" ⟨[.ref S, .ref s.heap.objs.size], []⟩) R { s with heap := s.heap.push { cls := .type "list_iterator", data := .fields #[.ref l, .int 0 0] } } := by
  have sz : items.size = ns.length := by have q := hi.length; rwa [Array.length_toList] at q
  have ltl : l < s.heap.objs.size := by obtain ⟨o, ho, _⟩ := hl; exact Heap.lt_size ho
  have ltS := Heap.lt_size hS
  have nIl : l ≠ s.heap.objs.size := Nat.ne_of_lt ltl
  have fresh : S ∉ [s.heap.objs.size, l] := by
    simp only [List.mem_cons, List.not_mem_nil, or_false, not_or]
    exact ⟨Nat.ne_of_lt ltS, hne⟩
  have vals : ∀ (i : Nat) (v : Value), items[i]? = some v → ∃ k t, ns[i]? = some k ∧ v = .int k t := fun i v e => by
    have hlt : i < ns.length := by rw [← sz]; exact (Array.getElem?_eq_some_iff.mp e).1
    obtain ⟨t, q⟩ := PyProof.Rows.IntsAre.int_at hi i v (by rw [Array.getElem?_toList]; exact e)
    exact ⟨ns[i], t, List.getElem?_eq_getElem hlt, by rw [q, List.getD_eq_getElem?_getD, List.getElem?_eq_getElem hlt] <;> rfl⟩
  have h1 : A.in1.handled = none := by simp [hh]
  refine set_update_ints ((Walks.list h1 s.heap.objs.size l nIl items).toS) S fresh ns sz hb vals (items.size - 0) 0 _ (by omega) (Nat.zero_le _) ⟨⟨_, Heap.get?_push_size _ rfl, rfl, rfl⟩, hl.push _⟩ ⟨0, Nat.le_refl 0, setR_new_at (Heap.get?_push_of_some _ hS)⟩ ?_
  intro s' c m cl R'
  obtain ⟨h', g, d, tk, os⟩ := s'
  obtain rfl : g = s.gens := m.gens
  obtain rfl : d = s.drawn := m.drawn
  obtain rfl : os = s.os := m.os
  refine h h' tk c R' (by omega) fun b o nb e => ?_
  refine m.heap b o ?_ (Heap.get?_push_of_some _ e)
  simp only [List.mem_cons, List.not_mem_nil, or_false, not_or]
  exact ⟨nb, Nat.ne_of_lt (Heap.lt_size e)⟩
set_option maxHeartbeats 3200000 in
theorem call_set_listU {l : Addr} {items : Array Value} {ns : List Int} {Q : Value → Shared → Prop} (hh : A.handled = none) (hl : s.heap.IsList l items) (hi : IntsAre items.toList ns) (hb : ns.length + 1 < scanBound)
    (h : ∀ (h' : Heap) (tk c : Nat), SetR w h' s.heap.objs.size (fun j => decide (j ∈ ns)) c → c ≤ ns.length → (∀ b o, s.heap.get? b = some o → h'.get? b = some o) → Q (.ref s.heap.objs.size) { s with heap := h', toks := tk }) :
    wpAny (model P w) A (call (.type "set") [.ref l]) Q E s := by
  obtain ⟨cm, tl, hmro⟩ := F.called_set.mro
  have hmade := F.called_set.made
  have hsub := F.called_set.sub
  have h1 := F.called_set.notType
  have h2 := F.called_set.canCreate
  have hct := F.typeCall_set_1 (.ref l)
  have ltl : l < s.heap.objs.size := by obtain ⟨o, ho, _⟩ := hl; exact Heap.lt_size ho
  refine wpAny_call (codeAny_of_tree (wpAny_pure ⟨Code.quiet_builtin _ (by decide +kernel), codeAny_builtin F.entry_type_call ?_⟩))
  rw [Around.under_plain (weight_type_call_type "set" [.ref l] []) rfl]
  repeat (any_goals (first | assumption | wp_step))
  have hS : (s.heap.push (bareSet w)).get? s.heap.objs.size = some (bareSet w) := Heap.get?_push_size _ rfl
  refine codeAny_mono (code_set_led1 (.ref l) (E := E) (Q₁ := fun obj s₁ => obj = .ref s.heap.objs.size ∧ s₁ = { s with heap := s.heap.push (bareSet w) }) ⟨rfl, rfl⟩) fun r s₁ hr => ?_
  cases r with
  | error e => exact hr
  | ok fl =>
    cases fl with
    | ret obj =>
      obtain ⟨rfl, rfl⟩ := hr
      have hT : Shared.TypeIs { s with heap := s.heap.push (bareSet w) } (.ref s.heap.objs.size) "set" := ⟨_, hS, rfl⟩
      have hli := F.called_set.init.lookup
      have hbi := F.called_set.init.bind (.ref s.heap.objs.size)
      repeat (any_goals (first | assumption | wp_step))
      refine codeAny_mono (codeAny_call_builtin (R := wants (fun r s₂ => r = .none ∧ ∃ h' tk c, s₂ = { s with heap := h', toks := tk } ∧ SetR w h' s.heap.objs.size (fun j => decide (j ∈ ns)) c ∧ c ≤ ns.length ∧ ∀ b o, s.heap.get? b = some o → h'.get? b = some o) E) F.called_set.init.plain F.entry_set_init (check_set_init_1 hT ?_)) fun r₂ s₂ hr₂ => ?_
      · have hl1 : (s.heap.push (bareSet w)).IsList l items := hl.push _
        have hls : Shared.TypeIs { s with heap := s.heap.push (bareSet w) } (.ref l) "list" := hl1.typeIs
        have k1 := F.sub_list_set
        have k2 := F.sub_list_frozenset
        have k3 : (Value.type "list" == Value.type "dict") = false := by decide
        unfold Builtin.«set.__init__» noKeywords Builtin.Frozenset.updateFrom
        generalize hPI : pyIter = PI
        wp_walk
        subst hPI
        refine wpAny_pyIter_list hl1 (wpAny_bind (wpAny_runValue ?_))
        refine init_set_list (s := { s with heap := s.heap.push (bareSet w) }) (A := A.in1.in1) (by simp [hh]) hl1 hi hb hS (Ne.symm (Nat.ne_of_lt ltl)) fun h' tk c R' cl k => ?_
        exact wpAny_pure (wpAny_pure ⟨rfl, h', tk, c, rfl, R', cl, fun b o e => k b o (Nat.ne_of_lt (Heap.lt_size e)) (Heap.get?_push_of_some _ e)⟩)
      · cases r₂ with
        | error e => exact hr₂
        | ok fl₂ =>
          cases fl₂ with
          | ret r =>
            obtain ⟨rfl, h', tk, c', rfl, R', cl, k⟩ := hr₂
            repeat (any_goals (first | assumption | wp_step))
            exact h _ _ _ R' cl k
          | _ => exact hr₂.elim
    | _ => exact hr.elim
end
/-- sorted(set(xs)) -/
def tSortSetI (K : PySem.W.Frag) (ta : TE) : TE := fun σ H Q => ta σ H fun x H1 => ∃ (l : Addr) (ns : List Int), x = .ref l ∧ SqL K H1 l (ns.map V.int) ∧ ns.length < 64 ∧
  ∀ (out : List Int) (p : Addr), out.Pairwise (· < ·) → (∀ k, k ∈ out ↔ k ∈ ns) → H1 p = none → Q (.ref p) (upd H1 p (.lst (out.map V.int)))
theorem pe_sortSetI {X : Cx} {a : Expr} {ta : TE} {p p2 q pos : Pos} (hg : Gl X "sorted") (hm : X.mg "sorted" = none) (hg2 : Gl X "set") (hm2 : X.mg "set" = none) (ha : PE X a ta) (hc : X.calm = true := by rfl)
    (na : starEach [a] X.env = (false, eval a X.env) :: starEach [] X.env := by rfl) : PE X (.Call (.Name "sorted" p) [.Call (.Name "set" p2) [a] [] q] [] pos) (tSortSetI X.K ta) := by
  refine ⟨fun pins s σ H Q I h => ?_⟩
  refine Call_ (ld_blt I hg hm boot_sorted ?_)
  refine PyProof.Rows.callWith_builtin1 (PyProof.Rows.args_cons ?_ rfl) rfl rfl
  refine Call_ (ld_blt I hg2 hm2 PyProof.Rows.boot_set ?_)
  refine PyProof.Rows.callWith_type1 (PyProof.Rows.args_cons (thn (ha.run pins s σ H _ I h) fun v s1 ⟨x, H1, I1, r1, q1⟩ => PyProof.Rows.args_nil ?_) na) na rfl
  obtain ⟨l, ns, rfl, hq, hl, q1⟩ := q1
  cases r1
  obtain ⟨its, r, pl, hz⟩ := I1.list hq
  have hd := I1.ok.hd hc
  refine call_set_listU (ns := ns) hd pl.isList (by simpa using r.ints) (by unfold scanBound; omega) fun h' tk c R' cl k => ?_
  refine PyProof.Rows.args_nil ?_
  have I2 : Inv X pins σ H1 { s1 with heap := h', toks := tk } := I1.kept k
  refine sorted_set (s := { s1 with heap := h', toks := tk }) R' hd (by omega) fun s' p out c' ns' k2 g o hp hout hi pw mem len => ?_
  have hn : H1 p = none := I2.hok.fresh hp
  have k12 : ∀ b u, s1.heap.get? b = some u → s'.heap.get? b = some u := fun b u e => k2 b u (k b u e)
  have hp1 : s1.heap.objs.size ≤ p := Nat.le_trans (Nat.le_of_lt R'.lt) hp
  have J : Inv X pins σ (upd H1 p (.lst (ns'.map V.int))) { s1 with heap := s'.heap, gens := s'.gens, drawn := s'.drawn, toks := s'.toks } :=
    I1.call (ch := []) (Un.laid k12 hp1 hn) (I1.hok.laid k12 hp1 ⟨by rw [List.length_map, sizeLine_eq]; omega, out.toList, c', vals_ints hi, by simpa [seqObj] using hout⟩) (by rw [g]; exact I1.bare) (fun _ z => nomatch z)
  have e : s' = { s1 with heap := s'.heap, gens := s'.gens, drawn := s'.drawn, toks := s'.toks } := by
    cases s'
    cases s1
    cases o
    rfl
  rw [e]
  exact ⟨.ref p, _, J, rfl, q1 ns' p pw (fun j => by rw [mem j, decide_eq_true_eq]) hn⟩
end L2
namespace Toy
open PySem PySem.Spec PyProof.Rows L2
end Toy
namespace L2
open PySem PySem.Spec PyProof.Rows
/-! ### len(set(xs)) of any ints (mine; wants setu) -/
def tLenSetU (K : PySem.W.Frag) (ta : TE) : TE := fun σ H Q => ta σ H fun x H1 => ∃ (l : Addr) (ns : List Int), x = .ref l ∧ SqL K H1 l (ns.map V.int) ∧ ns.length < 64 ∧ ∀ o : List Int, o.Nodup → (∀ k, k ∈ o ↔ k ∈ ns) → Q (.int (o.length : Nat)) H1
theorem pe_lenSetU {X : Cx} {a : Expr} {ta : TE} {p p2 q pos : Pos} (hg : Gl X "len") (hm : X.mg "len" = none) (hg2 : Gl X "set") (hm2 : X.mg "set" = none) (ha : PE X a ta) (hc : X.calm = true := by rfl)
    (na : starEach [a] X.env = (false, eval a X.env) :: starEach [] X.env := by rfl) : PE X (.Call (.Name "len" p) [.Call (.Name "set" p2) [a] [] q] [] pos) (tLenSetU X.K ta) := by
  refine ⟨fun pins s σ H Q I h => ?_⟩
  refine Call_ (ld_blt I hg hm PySem.boot_len ?_)
  refine PyProof.Rows.callWith_builtin1 (PyProof.Rows.args_cons ?_ rfl) rfl rfl
  refine Call_ (ld_blt I hg2 hm2 PyProof.Rows.boot_set ?_)
  refine PyProof.Rows.callWith_type1 (PyProof.Rows.args_cons (thn (ha.run pins s σ H _ I h) fun v s1 ⟨x, H1, I1, r1, q1⟩ => PyProof.Rows.args_nil ?_) na) na rfl
  obtain ⟨l, ns, rfl, hq, hl, q1⟩ := q1
  cases r1
  obtain ⟨its, r, pl, hz⟩ := I1.list hq
  refine call_set_listU (ns := ns) (I1.ok.hd hc) pl.isList (by simpa using r.ints) (by unfold scanBound; omega) fun h' tk c R' cl k => ?_
  refine PyProof.Rows.args_nil ?_
  have I2 : Inv X pins σ H1 { s1 with heap := h', toks := tk } := I1.kept k
  obtain ⟨o, es, ep, t, ho, hex, hd, good, nd, mem, small, fits, sz, _⟩ := R'
  have lo : (es.toList.map keyOf).length = es.size := by rw [List.length_map, Array.length_toList]
  refine call_len_set ho hex hd fits (by omega) ⟨.int ((es.toList.map keyOf).length : Nat), H1, I2.tok _, ⟨_, by rw [lo]⟩, q1 _ nd fun j => ?_⟩
  rw [← mem j, decide_eq_true_eq]
end L2
namespace Toy
open PySem PySem.Spec PyProof.Rows L2
end Toy
/-! ### max(t), a tuple of ints (mine) -/
namespace PySem
open PyProof.Rows
theorem max_intTup {prog : Program} {w : World} {A : Around} {E : Value → Shared → Prop} {s : Shared} {l : Addr} {xs : Array (Int × Tok)} {Q : Value → Shared → Prop} (hh : A.handled = none) (hl : s.heap.IsTuple l (intItems xs)) (hne : 0 < xs.size)
    (h : ∀ v h' tk, (intItems xs)[argBest (fun i j => decide (numAt xs i > numAt xs j)) (xs.size - 1)]? = some v → (∀ b o, s.heap.get? b = some o → h'.get? b = some o) → Q v { s with heap := h', toks := tk }) :
    wpAny (model prog w) A (call (.builtin "max") [.ref l]) Q E s := by
  have ll : l < s.heap.objs.size := by obtain ⟨_, ho, _⟩ := id hl; exact Heap.lt_size ho
  refine call_max_walk (wpAny_pyIter_tuple hl ?_)
  refine ⟨s.heap.objs.size, [s.heap.objs.size, l], [s.heap.objs.size], (intItems xs).size, fun i v => (intItems xs)[i]? = some v, fun i h => h.IsTupleIter s.heap.objs.size l i ∧ h.IsTuple l (intItems xs), _, rfl, Walks.tuple (show A.in1.handled = none from hh) s.heap.objs.size l (Nat.ne_of_lt ll) (intItems xs), ⟨⟨_, Heap.get?_push_size _ rfl, rfl, rfl⟩, hl.push _⟩, fun b hb => ?_, by simpa [intItems] using hne, CmpOf.ints_gt (numAt xs) (fun _ _ => intItems_at), fun v h' tk hP hk => ?_⟩
  · have e' : b = s.heap.objs.size ∨ b = l := by simpa using hb
    rw [Heap.size_push]
    rcases e' with z | z
    · rw [z]; exact Nat.lt_succ_self _
    · rw [z]; exact Nat.lt_succ_of_lt ll
  · refine h v h' tk (by simpa [intItems] using hP) fun b o e => ?_
    refine hk b o (fun z => ?_) (Heap.get?_push_of_some _ e)
    have z : b = s.heap.objs.size := by simpa using z
    have := Heap.lt_size e
    rw [z] at this
    exact absurd this (Nat.lt_irrefl _)
end PySem
namespace Toy
open PySem PySem.Spec PyProof.Rows L2
theorem max_rawT {prog : Program} {w : World} {A : Around} {E : Value → Shared → Prop} {s : Shared} {l : Addr} {its : List Value} {ns : List Int} {Q : Value → Shared → Prop} (hh : A.handled = none) (hl : s.heap.IsTuple l its.toArray) (hi : IntsAre its ns) (hne : 0 < ns.length)
    (h : ∀ (h' : Heap) (tk : Nat) (M : Int) (t' : Tok), (∀ b o, s.heap.get? b = some o → h'.get? b = some o) → M ∈ ns → (∀ a, a ∈ ns → a ≤ M) → Q (.int M t') { s with heap := h', toks := tk }) : wpAny (model prog w) A (call (.builtin "max") [.ref l]) Q E s := by
  obtain ⟨xs, e⟩ := hi.allInts.items
  have hn : numsOf (intItems xs).toList = ns := by rw [← e]; exact hi.numsOf
  rw [nums_intItems] at hn
  subst hn
  rw [e] at hl
  have hsz : 0 < xs.size := by simpa using hne
  refine PySem.max_intTup hh hl hsz fun v h' tk hv hk => ?_
  obtain ⟨t, rfl⟩ := intItems_at hv
  obtain ⟨h1, h2⟩ := argBest_gt (numAt xs) (xs.size - 1)
  refine h h' tk _ t hk ?_ fun a ha => ?_
  · rw [numAt_eq]; exact PySem.getD_mem (by rw [List.length_map, Array.length_toList]; omega)
  · obtain ⟨j, hj, rfl⟩ := mem_getD ha
    rw [List.length_map, Array.length_toList] at hj
    rw [← numAt_eq]; exact h2 j (by omega)
def rMaxT (K : PySem.W.Frag) : List V → Hp → VK → Prop := fun vs H Q => ∃ (a : Addr) (ns : List Int), vs = [V.ref a] ∧ SqT K H a (ns.map V.int) ∧ 0 < ns.length ∧ ∀ m, m ∈ ns → (∀ y, y ∈ ns → y ≤ m) → Q (.int m) H
theorem cr_maxT {X : Cx} (hc : X.calm = true) : CallR X (.builtin "max") (rMaxT X.K) := by
  intro pins s σ H xs us Q I r h
  obtain ⟨a, ns, rfl, hq, hne, q⟩ := h
  obtain ⟨u, rfl, rx⟩ := vals1 r
  cases rx
  obtain ⟨its, rv, p, _⟩ := I.tuple hq
  exact max_rawT (I.ok.hd hc) p rv.ints hne fun h' tk m t' hk h1 h2 => ⟨.int _, H, I.kept hk, ⟨_, rfl⟩, q m h1 h2⟩
/-! ### data: a deed -/
structure Dd where
  add : Int
  low : Option Int
  high : Option Int
def oV : Option Int → V
  | none => .non
  | some i => .int i
def Dd.vs (d : Dd) : List V := [.int d.add, oV d.low, oV d.high]
def Dd.at_ (K : PySem.W.Frag) (H : Hp) (a : Addr) (d : Dd) : Prop := SqT K H a d.vs
/-- the ends stand right -/
def Dd.Ok (d : Dd) : Prop := ∀ l h, d.low = some l → d.high = some h → l < h ∨ (l = h ∧ d.add = 0)
def up (o : Option Int) (f : Int) : Int := match o with | none => f | some l => if f > l then f else l
def dn (o : Option Int) (f : Int) : Int := match o with | none => f | some h => if f < h then f else h
def Dd.ap (d : Dd) (v : Int) : Int := dn d.high (up d.low (v + d.add))
def hi (o : Option Int) (f : Int) : Int := match o with | none => f | some h => if f > h then h else f
def mk (d : Dd) (v : Int) : Int := match d.low with | none => hi d.high (v + d.add) | some l => if v + d.add < l then l else hi d.high (v + d.add)
theorem mk_eq {d : Dd} (ok : d.Ok) (v : Int) : mk d v = d.ap v := by
  obtain ⟨add, low, high⟩ := d
  have ok' := ok
  unfold Dd.Ok at ok'
  cases low with
  | none =>
    cases high with
    | none => rfl
    | some h =>
      show (if v + add > h then h else v + add) = if v + add < h then v + add else h
      by_cases c : v + add > h
      · rw [if_pos c, if_neg (by omega)]
      · rw [if_neg c]
        by_cases c2 : v + add < h
        · rw [if_pos c2]
        · rw [if_neg c2]; omega
  | some l =>
    cases high with
    | none =>
      show (if v + add < l then l else v + add) = if v + add > l then v + add else l
      by_cases c : v + add < l
      · rw [if_pos c, if_neg (by omega)]
      · rw [if_neg c]
        by_cases c2 : v + add > l
        · rw [if_pos c2]
        · rw [if_neg c2]; omega
    | some h =>
      have := ok' l h rfl rfl
      show (if v + add < l then l else if v + add > h then h else v + add) = if (if v + add > l then v + add else l) < h then (if v + add > l then v + add else l) else h
      by_cases c : v + add < l
      · rw [if_pos c, if_neg (show ¬ v + add > l by omega)]
        by_cases c2 : l < h
        · rw [if_pos c2]
        · rw [if_neg c2]; omega
      · rw [if_neg c]
        have e : (if v + add > l then v + add else l) = v + add := by
          by_cases c2 : v + add > l
          · rw [if_pos c2]
          · rw [if_neg c2]; omega
        rw [e]
        by_cases c2 : v + add > h
        · rw [if_pos c2, if_neg (by omega)]
        · rw [if_neg c2]
          by_cases c3 : v + add < h
          · rw [if_pos c3]
          · rw [if_neg c3]; omega
/-- all numbers of a deed are within b -/
def Dd.In (b : Int) (d : Dd) : Prop := -b ≤ d.add ∧ d.add ≤ b ∧ (∀ l, d.low = some l → -b ≤ l ∧ l ≤ b) ∧ ∀ l, d.high = some l → -b ≤ l ∧ l ≤ b
theorem in_mk {b add : Int} {low high : Option Int} (h1 : -b ≤ add) (h2 : add ≤ b) (hl : ∀ l, low = some l → -b ≤ l ∧ l ≤ b) (hh : ∀ l, high = some l → -b ≤ l ∧ l ≤ b) : Dd.In b ⟨add, low, high⟩ := ⟨h1, h2, hl, hh⟩
theorem in_none {b : Int} : ∀ l, (none : Option Int) = some l → -b ≤ l ∧ l ≤ b := fun _ h => nomatch h
theorem in_some {b x : Int} (h1 : -b ≤ x) (h2 : x ≤ b) : ∀ l, some x = some l → -b ≤ l ∧ l ≤ b := fun l h => by cases h; exact ⟨h1, h2⟩
theorem ap_in {b c : Int} {d : Dd} {v : Int} (h : d.In b) (h1 : -c ≤ v) (h2 : v ≤ c) (h0 : 0 ≤ c) : -(b + c) ≤ d.ap v ∧ d.ap v ≤ b + c := by
  obtain ⟨a1, a2, hl, hh⟩ := h
  unfold Dd.ap dn up
  cases el : d.low with
  | none =>
    cases eh : d.high with
    | none => dsimp only; omega
    | some k => have := hh k eh; dsimp only; split <;> omega
  | some l =>
    have := hl l el
    cases eh : d.high with
    | none => dsimp only; split <;> omega
    | some k => have := hh k eh; dsimp only; split <;> split <;> omega
theorem fits {i : Int} (h1 : -(10 ^ 40) ≤ i) (h2 : i ≤ 10 ^ 40) : i.natAbs.log2 < 1920 := by
  refine log_lt (by decide) (Nat.lt_of_le_of_lt (m := 10 ^ 40) (by omega) (by decide))
theorem menu7 : ∀ j : Nat, j < 7 → ∃ z : Int, ([.int 3, .int 5, .int 11, .int 17, .int 29, .int 37, .int 41] : List V)[j]? = some (.int z) ∧ 0 < z ∧ z ≤ 41
  | 0, _ => ⟨_, rfl, by decide, by decide⟩
  | 1, _ => ⟨_, rfl, by decide, by decide⟩
  | 2, _ => ⟨_, rfl, by decide, by decide⟩
  | 3, _ => ⟨_, rfl, by decide, by decide⟩
  | 4, _ => ⟨_, rfl, by decide, by decide⟩
  | 5, _ => ⟨_, rfl, by decide, by decide⟩
  | 6, _ => ⟨_, rfl, by decide, by decide⟩
  | n + 7, h => absurd h (by omega)
theorem menu6 : ∀ j : Nat, j < 6 → ∃ z : Int, ([.int 4, .int 12, .int 1000, .int (10 ^ Int.toNat 9), .int (10 ^ Int.toNat 29), .int (10 ^ Int.toNat 29)] : List V)[j]? = some (.int z) ∧ 1 ≤ z ∧ z ≤ 10 ^ 29
  | 0, _ => ⟨_, rfl, by decide, by decide⟩
  | 1, _ => ⟨_, rfl, by decide, by decide⟩
  | 2, _ => ⟨_, rfl, by decide, by decide⟩
  | 3, _ => ⟨_, rfl, by decide, by decide⟩
  | 4, _ => ⟨_, rfl, by decide, by decide⟩
  | 5, _ => ⟨_, rfl, by decide, by decide⟩
  | n + 6, h => absurd h (by omega)
def PotAt (H : Hp) (p : Addr) : Prop := ∃ a b : Int, H p = some (.lst [.int a, .int b]) ∧ 0 ≤ a ∧ 0 ≤ b ∧ b < 2 ^ 40
theorem PotAt.same {H H' : Hp} {p : Addr} (e : Same H H') (h : PotAt H p) : PotAt H' p := by
  obtain ⟨a, b, h1, h2⟩ := h
  exact ⟨a, b, e _ _ h1, h2⟩
def DeedArg (K : PySem.W.Frag) (H : Hp) (a : Addr) (d : Dd) : Prop := TyX K H (.ref a) (.type "tuple") ∧ SqT K H a d.vs ∧ d.Ok
def Dz (H : Hp) (a : Addr) (d : Dd) : Prop := H a = some (.tup d.vs) ∧ d.In (10 ^ 29 + 3) ∧ d.Ok
theorem Dz.arg {K : PySem.W.Frag} {H : Hp} {a : Addr} {d : Dd} (h : Dz H a d) : DeedArg K H a d := ⟨.base (.tup h.1), SqT.of h.1, h.2.2⟩
theorem Dz.same {H H' : Hp} {a : Addr} {d : Dd} (e : Same H H') (h : Dz H a d) : Dz H' a d := ⟨e _ _ h.1, h.2⟩
def look : Dd := ⟨0, none, none⟩
theorem look_ok : look.Ok := fun _ _ h => nomatch h
theorem look_in {b : Int} (h : 0 ≤ b) : look.In b := in_mk (by omega) (by omega) in_none in_none
theorem pot_ne {H : Hp} {p a : Addr} (h : PotAt H p) (n : H a = none) : a ≠ p := fun z => by obtain ⟨_, _, h1, _⟩ := h; rw [← z, n] at h1; cases h1
/-! ### two deeds as one -/
def wholeD (add : Int) (low high : Option Int) : Dd := if low ≠ none ∧ low = high then ⟨0, low, high⟩ else ⟨add, low, high⟩
theorem wholeD_low {add : Int} {low high : Option Int} : (wholeD add low high).low = low := by unfold wholeD; split <;> rfl
theorem wholeD_high {add : Int} {low high : Option Int} : (wholeD add low high).high = high := by unfold wholeD; split <;> rfl
theorem wholeD_add {add : Int} {low high : Option Int} : (wholeD add low high).add = if low ≠ none ∧ low = high then 0 else add := by unfold wholeD; split <;> rfl
def endBeh (b : Dd) (o p : Option Int) : Option Int := match o with | none => p | some l => some (b.ap l)
def beh (a b : Dd) : Dd := wholeD (a.add + b.add) (endBeh b a.low b.low) (endBeh b a.high b.high)
theorem up_mono {o : Option Int} {x y : Int} (h : x ≤ y) : up o x ≤ up o y := by
  cases o with
  | none => exact h
  | some l =>
    show (if x > l then x else l) ≤ (if y > l then y else l)
    split <;> split <;> omega
theorem dn_mono {o : Option Int} {x y : Int} (h : x ≤ y) : dn o x ≤ dn o y := by
  cases o with
  | none => exact h
  | some l =>
    show (if x < l then x else l) ≤ (if y < l then y else l)
    split <;> split <;> omega
theorem ap_mono (d : Dd) {x y : Int} (h : x ≤ y) : d.ap x ≤ d.ap y := dn_mono (up_mono (by omega))
/-- what is made, by the four ways -/
theorem ap_nn (d : Dd) (v : Int) (h1 : d.low = none) (h2 : d.high = none) : d.ap v = v + d.add := by unfold Dd.ap; rw [h1, h2] <;> rfl
theorem ap_sn (d : Dd) (v l : Int) (h1 : d.low = some l) (h2 : d.high = none) : d.ap v = if v + d.add > l then v + d.add else l := by unfold Dd.ap; rw [h1, h2] <;> rfl
theorem ap_ns (d : Dd) (v h : Int) (h1 : d.low = none) (h2 : d.high = some h) : d.ap v = if v + d.add < h then v + d.add else h := by unfold Dd.ap; rw [h1, h2] <;> rfl
theorem ap_ss (d : Dd) (v l h : Int) (h1 : d.low = some l) (h2 : d.high = some h) : d.ap v = if (if v + d.add > l then v + d.add else l) < h then (if v + d.add > l then v + d.add else l) else h := by unfold Dd.ap; rw [h1, h2] <;> rfl
/-- facts for omega -/
theorem ap_cases (d : Dd) (ok : d.Ok) (v : Int) :
    (∀ l, d.low = some l → l ≤ d.ap v ∧ (v + d.add ≤ l → d.ap v = l)) ∧ (∀ h, d.high = some h → d.ap v ≤ h ∧ (h ≤ v + d.add → d.ap v = h)) ∧
    ((d.low = none ∨ ∃ l, d.low = some l ∧ l ≤ v + d.add) → (d.high = none ∨ ∃ h, d.high = some h ∧ v + d.add ≤ h) → d.ap v = v + d.add) := by
  cases e1 : d.low with
  | none =>
    cases e2 : d.high with
    | none =>
      rw [ap_nn d v e1 e2]
      exact ⟨fun _ h => (nomatch h), fun _ h => (nomatch h), fun _ _ => rfl⟩
    | some h =>
      rw [ap_ns d v h e1 e2]
      refine ⟨fun _ h => (nomatch h), fun k hk => ?_, fun _ h2 => ?_⟩
      · cases hk; split <;> omega
      · rcases h2 with h2 | ⟨k, hk, h2⟩
        · cases h2
        · cases hk; split <;> omega
  | some l =>
    cases e2 : d.high with
    | none =>
      rw [ap_sn d v l e1 e2]
      refine ⟨fun k hk => ?_, fun _ h => (nomatch h), fun h1 _ => ?_⟩
      · cases hk; split <;> omega
      · rcases h1 with h1 | ⟨k, hk, h1⟩
        · cases h1
        · cases hk; split <;> omega
    | some h =>
      have o := ok l h e1 e2
      rw [ap_ss d v l h e1 e2]
      refine ⟨fun k hk => ?_, fun k hk => ?_, fun h1 h2 => ?_⟩
      · cases hk
        by_cases c : v + d.add > l
        · rw [if_pos c]; split <;> omega
        · rw [if_neg c]; split <;> omega
      · cases hk
        by_cases c : v + d.add > l
        · rw [if_pos c]; split <;> omega
        · rw [if_neg c]; split <;> omega
      · rcases h1 with h1 | ⟨k, hk, h1⟩
        · cases h1
        rcases h2 with h2 | ⟨k', hk', h2⟩
        · cases h2
        cases hk; cases hk'
        by_cases c : v + d.add > l
        · rw [if_pos c]; split <;> omega
        · rw [if_neg c]; split <;> omega
theorem beh_ok {a b : Dd} (ha : a.Ok) (hb : b.Ok) : (beh a b).Ok := by
  intro l h h1 h2
  unfold beh at h1 h2 ⊢
  rw [wholeD_low] at h1
  rw [wholeD_high] at h2
  rw [wholeD_add]
  have key : l ≤ h := by
    unfold endBeh at h1 h2
    cases e1 : a.low with
    | none =>
      rw [e1] at h1
      cases e2 : a.high with
      | none =>
        rw [e2] at h2
        have := hb l h h1 h2
        omega
      | some k =>
        rw [e2] at h2
        cases h2
        exact ((ap_cases b hb k).1 l h1).1
    | some j =>
      rw [e1] at h1
      cases h1
      cases e2 : a.high with
      | none =>
        rw [e2] at h2
        exact ((ap_cases b hb j).2.1 h h2).1
      | some k =>
        rw [e2] at h2
        cases h2
        have := ha j k e1 e2
        exact ap_mono b (by omega)
  by_cases c : l = h
  · right
    refine ⟨c, if_pos ⟨by rw [h1]; exact Option.some_ne_none l, by rw [h1, h2, c]⟩⟩
  · left; omega
/-- the ends of a deed -/
theorem ap_low {d : Dd} (ok : d.Ok) {l v : Int} (h : d.low = some l) (hv : v + d.add ≤ l) : d.ap v = l := ((ap_cases d ok v).1 l h).2 hv
theorem ap_high {d : Dd} (ok : d.Ok) {l v : Int} (h : d.high = some l) (hv : l ≤ v + d.add) : d.ap v = l := ((ap_cases d ok v).2.1 l h).2 hv
theorem whole_ap {add : Int} {low high : Option Int} {v w : Int} (hl : ∀ l, low = some l → l ≤ w) (hh : ∀ h, high = some h → w ≤ h)
    (h1 : (∀ l, low = some l → v + add ≤ l → w = l)) (h2 : (∀ h, high = some h → h ≤ v + add → w = h))
    (h3 : (low = none ∨ ∃ l, low = some l ∧ l ≤ v + add) → (high = none ∨ ∃ h, high = some h ∧ v + add ≤ h) → w = v + add) : (wholeD add low high).ap v = w := by
  cases e1 : low with
  | none =>
    have e3 : wholeD add none high = ⟨add, none, high⟩ := by unfold wholeD; rw [if_neg (fun z => z.1 rfl)]
    rw [e3]
    cases e2 : high with
    | none => rw [ap_nn _ _ rfl rfl]; exact (h3 (.inl e1) (.inl e2)).symm
    | some h =>
      rw [ap_ns _ _ h rfl rfl]
      show (if v + add < h then v + add else h) = w
      have a2 := h2 h e2
      have a3 := h3 (.inl e1)
      split
      · exact (a3 (.inr ⟨h, e2, by omega⟩)).symm
      · exact (a2 (by omega)).symm
  | some l =>
    have b1 := hl l e1
    cases e2 : high with
    | none =>
      have e3 : wholeD add (some l) none = ⟨add, some l, none⟩ := by unfold wholeD; rw [if_neg (fun z => nomatch z.2)]
      rw [e3, ap_sn _ _ l rfl rfl]
      show (if v + add > l then v + add else l) = w
      have a1 := h1 l e1
      split
      · exact (h3 (.inr ⟨l, e1, by omega⟩) (.inl e2)).symm
      · exact (a1 (by omega)).symm
    | some h =>
      have b2 := hh h e2
      by_cases c : l = h
      · subst c
        have e3 : wholeD add (some l) (some l) = ⟨0, some l, some l⟩ := by unfold wholeD; rw [if_pos ⟨Option.some_ne_none l, rfl⟩]
        rw [e3, ap_ss _ _ l l rfl rfl]
        split <;> omega
      · have e3 : wholeD add (some l) (some h) = ⟨add, some l, some h⟩ := by unfold wholeD; rw [if_neg (fun z => c (Option.some.inj z.2))]
        rw [e3, ap_ss _ _ l h rfl rfl]
        show (if (if v + add > l then v + add else l) < h then (if v + add > l then v + add else l) else h) = w
        have a1 := h1 l e1
        have a2 := h2 h e2
        by_cases c1 : v + add > l
        · rw [if_pos c1]
          split
          · exact (h3 (.inr ⟨l, e1, by omega⟩) (.inr ⟨h, e2, by omega⟩)).symm
          · exact (a2 (by omega)).symm
        · rw [if_neg c1]
          have := a1 (by omega)
          split <;> omega
theorem beh_ap {a b : Dd} (ha : a.Ok) (hb : b.Ok) (v : Int) : (beh a b).ap v = b.ap (a.ap v) := by
  obtain ⟨A1, A2, A3⟩ := ap_cases a ha v
  obtain ⟨B1, B2, B3⟩ := ap_cases b hb (a.ap v)
  have P3 : ∀ l, endBeh b a.low b.low = some l → v + (a.add + b.add) ≤ l → b.ap (a.ap v) = l := by
    intro l hl hv
    unfold endBeh at hl
    cases e : a.low with
    | none =>
      rw [e] at hl
      refine (B1 l hl).2 ?_
      cases e2 : a.high with
      | none => rw [A3 (.inl e) (.inl e2)]; omega
      | some k =>
        by_cases c : v + a.add ≤ k
        · rw [A3 (.inl e) (.inr ⟨k, e2, c⟩)]; omega
        · rw [(A2 k e2).2 (by omega)]; omega
    | some j =>
      rw [e] at hl
      cases hl
      -- v + a.add + b.add ≤ b.ap j
      by_cases c : v + a.add ≤ j
      · rw [(A1 j e).2 c]
      · have m : b.ap j ≤ b.ap (a.ap v) := ap_mono b (A1 j e).1
        have n : b.ap (a.ap v) ≤ b.ap (v + a.add) := by
          refine ap_mono b ?_
          cases e2 : a.high with
          | none => rw [A3 (.inr ⟨j, e, by omega⟩) (.inl e2)]; omega
          | some k =>
            by_cases c : v + a.add ≤ k
            · rw [A3 (.inr ⟨j, e, by omega⟩) (.inr ⟨k, e2, c⟩)]; omega
            · rw [(A2 k e2).2 (by omega)]; omega
        -- b at v + a.add is at most max of its sum and its low end
        obtain ⟨C1, C2, C3⟩ := ap_cases b hb (v + a.add)
        obtain ⟨D1, D2, D3⟩ := ap_cases b hb j
        cases f1 : b.low with
        | none =>
          cases f2 : b.high with
          | none => have := C3 (.inl f1) (.inl f2); have := D3 (.inl f1) (.inl f2); omega
          | some k =>
            have := C2 k f2; have := D2 k f2
            by_cases c3 : v + a.add + b.add ≤ k
            · have := C3 (.inl f1) (.inr ⟨k, f2, c3⟩); have := D3 (.inl f1) (.inr ⟨k, f2, by omega⟩); omega
            · omega
        | some i =>
          have := C1 i f1; have := D1 i f1
          cases f2 : b.high with
          | none =>
            by_cases c3 : i ≤ v + a.add + b.add
            · have := C3 (.inr ⟨i, f1, c3⟩) (.inl f2)
              by_cases c4 : i ≤ j + b.add
              · have := D3 (.inr ⟨i, f1, c4⟩) (.inl f2); omega
              · omega
            · omega
          | some k =>
            have := C2 k f2; have := D2 k f2
            by_cases c3 : i ≤ v + a.add + b.add
            · by_cases c5 : v + a.add + b.add ≤ k
              · have := C3 (.inr ⟨i, f1, c3⟩) (.inr ⟨k, f2, c5⟩)
                by_cases c4 : i ≤ j + b.add
                · have := D3 (.inr ⟨i, f1, c4⟩) (.inr ⟨k, f2, by omega⟩); omega
                · omega
              · omega
            · omega
  have P4 : ∀ h, endBeh b a.high b.high = some h → h ≤ v + (a.add + b.add) → b.ap (a.ap v) = h := by
    intro h hh hv
    unfold endBeh at hh
    cases e : a.high with
    | none =>
      rw [e] at hh
      refine (B2 h hh).2 ?_
      cases e2 : a.low with
      | none => rw [A3 (.inl e2) (.inl e)]; omega
      | some k =>
        by_cases c : k ≤ v + a.add
        · rw [A3 (.inr ⟨k, e2, c⟩) (.inl e)]; omega
        · rw [(A1 k e2).2 (by omega)]; omega
    | some j =>
      rw [e] at hh
      cases hh
      by_cases c : j ≤ v + a.add
      · rw [(A2 j e).2 c]
      · have m : b.ap (a.ap v) ≤ b.ap j := ap_mono b (A2 j e).1
        have n : b.ap (v + a.add) ≤ b.ap (a.ap v) := by
          refine ap_mono b ?_
          cases e2 : a.low with
          | none => rw [A3 (.inl e2) (.inr ⟨j, e, by omega⟩)]; omega
          | some k =>
            by_cases c : k ≤ v + a.add
            · rw [A3 (.inr ⟨k, e2, c⟩) (.inr ⟨j, e, by omega⟩)]; omega
            · rw [(A1 k e2).2 (by omega)]; omega
        obtain ⟨C1, C2, C3⟩ := ap_cases b hb (v + a.add)
        obtain ⟨D1, D2, D3⟩ := ap_cases b hb j
        cases f1 : b.high with
        | none =>
          cases f2 : b.low with
          | none => have := C3 (.inl f2) (.inl f1); have := D3 (.inl f2) (.inl f1); omega
          | some k =>
            have := C1 k f2; have := D1 k f2
            by_cases c3 : k ≤ v + a.add + b.add
            · have := C3 (.inr ⟨k, f2, c3⟩) (.inl f1); have := D3 (.inr ⟨k, f2, by omega⟩) (.inl f1); omega
            · omega
        | some i =>
          have := C2 i f1; have := D2 i f1
          cases f2 : b.low with
          | none =>
            by_cases c3 : v + a.add + b.add ≤ i
            · have := C3 (.inl f2) (.inr ⟨i, f1, c3⟩)
              by_cases c4 : j + b.add ≤ i
              · have := D3 (.inl f2) (.inr ⟨i, f1, c4⟩); omega
              · omega
            · omega
          | some k =>
            have := C1 k f2; have := D1 k f2
            by_cases c3 : v + a.add + b.add ≤ i
            · by_cases c5 : k ≤ v + a.add + b.add
              · have := C3 (.inr ⟨k, f2, c5⟩) (.inr ⟨i, f1, c3⟩)
                by_cases c4 : j + b.add ≤ i
                · have := D3 (.inr ⟨k, f2, by omega⟩) (.inr ⟨i, f1, c4⟩); omega
                · omega
              · omega
            · omega
  unfold beh
  refine whole_ap (fun l hl => ?_) (fun h hh => ?_) P3 P4 (fun h1 h2 => ?_)
  · unfold endBeh at hl
    cases e : a.low with
    | none => rw [e] at hl; exact (B1 l hl).1
    | some j => rw [e] at hl; cases hl; exact ap_mono b (A1 j e).1
  · unfold endBeh at hh
    cases e : a.high with
    | none => rw [e] at hh; exact (B2 h hh).1
    | some j => rw [e] at hh; cases hh; exact ap_mono b (A2 j e).1
  · -- between the ends both add
    by_cases s1 : ∃ l, endBeh b a.low b.low = some l ∧ v + (a.add + b.add) ≤ l
    · obtain ⟨l, s1, s2⟩ := s1
      rw [P3 l s1 s2]
      rcases h1 with h1 | ⟨l', h1, h4⟩
      · rw [s1] at h1; cases h1
      · rw [s1] at h1; cases h1; omega
    by_cases s2 : ∃ l, endBeh b a.high b.high = some l ∧ l ≤ v + (a.add + b.add)
    · obtain ⟨l, s2, s3⟩ := s2
      rw [P4 l s2 s3]
      rcases h2 with h2 | ⟨l', h2, h4⟩
      · rw [s2] at h2; cases h2
      · rw [s2] at h2; cases h2; omega
    have h1s : ∀ l, endBeh b a.low b.low = some l → l < v + (a.add + b.add) := fun l hl => Int.not_le.mp fun z => s1 ⟨l, hl, z⟩
    have h2s : ∀ l, endBeh b a.high b.high = some l → v + (a.add + b.add) < l := fun l hl => Int.not_le.mp fun z => s2 ⟨l, hl, z⟩
    have a1 : a.low = none ∨ ∃ l, a.low = some l ∧ l ≤ v + a.add := by
      cases e : a.low with
      | none => exact .inl rfl
      | some j =>
        right
        refine ⟨j, rfl, ?_⟩
        rcases h1 with h1 | ⟨l, h1, h4⟩
        · unfold endBeh at h1; rw [e] at h1; cases h1
        have st := h1s l h1
        unfold endBeh at h1; rw [e] at h1; cases h1
        by_cases c : j ≤ v + a.add
        · exact c
        obtain ⟨D1, D2, D3⟩ := ap_cases b hb j
        exfalso
        cases f2 : b.high with
        | none =>
          cases f1 : b.low with
          | none => have := D3 (.inl f1) (.inl f2); omega
          | some i => have := D1 i f1; by_cases c4 : i ≤ j + b.add; (have := D3 (.inr ⟨i, f1, c4⟩) (.inl f2); omega); omega
        | some k =>
          have := D2 k f2
          by_cases c5 : j + b.add ≤ k
          · cases f1 : b.low with
            | none => have := D3 (.inl f1) (.inr ⟨k, f2, c5⟩); omega
            | some i => have := D1 i f1; by_cases c4 : i ≤ j + b.add; (have := D3 (.inr ⟨i, f1, c4⟩) (.inr ⟨k, f2, c5⟩); omega); omega
          · have e5 : b.ap j = k := this.2 (by omega)
            -- the upper end is met: then high of both is k
            rcases h2 with h2 | ⟨h, h2, h6⟩
            · unfold endBeh at h2; cases e7 : a.high with
              | none => rw [e7] at h2; rw [f2] at h2; cases h2
              | some m => rw [e7] at h2; cases h2
            · unfold endBeh at h2; cases e7 : a.high with
              | none => rw [e7] at h2; rw [f2] at h2; cases h2; omega
              | some m =>
                rw [e7] at h2; cases h2
                have o := ha j m e e7
                have q1 := ap_mono b (show j ≤ m by omega)
                have q2 := ((ap_cases b hb m).2.1 k f2).1
                omega
    have a2 : a.high = none ∨ ∃ l, a.high = some l ∧ v + a.add ≤ l := by
      cases e : a.high with
      | none => exact .inl rfl
      | some j =>
        right
        refine ⟨j, rfl, ?_⟩
        rcases h2 with h2 | ⟨l, h2, h4⟩
        · unfold endBeh at h2; rw [e] at h2; cases h2
        have st := h2s l h2
        unfold endBeh at h2; rw [e] at h2; cases h2
        by_cases c : v + a.add ≤ j
        · exact c
        obtain ⟨D1, D2, D3⟩ := ap_cases b hb j
        exfalso
        cases f2 : b.low with
        | none =>
          cases f1 : b.high with
          | none => have := D3 (.inl f2) (.inl f1); omega
          | some i => have := D2 i f1; by_cases c4 : j + b.add ≤ i; (have := D3 (.inl f2) (.inr ⟨i, f1, c4⟩); omega); omega
        | some k =>
          have := D1 k f2
          by_cases c5 : k ≤ j + b.add
          · cases f1 : b.high with
            | none => have := D3 (.inr ⟨k, f2, c5⟩) (.inl f1); omega
            | some i => have := D2 i f1; by_cases c4 : j + b.add ≤ i; (have := D3 (.inr ⟨k, f2, c5⟩) (.inr ⟨i, f1, c4⟩); omega); omega
          · have e5 : b.ap j = k := this.2 (by omega)
            rcases h1 with h1 | ⟨h, h1, h6⟩
            · unfold endBeh at h1; cases e7 : a.low with
              | none => rw [e7] at h1; rw [f2] at h1; cases h1
              | some m => rw [e7] at h1; cases h1
            · unfold endBeh at h1; cases e7 : a.low with
              | none => rw [e7] at h1; rw [f2] at h1; cases h1; omega
              | some m =>
                rw [e7] at h1; cases h1
                have o := ha m j e7 e
                have q1 := ap_mono b (show m ≤ j by omega)
                have q2 := ((ap_cases b hb m).1 k f2).1
                omega
    have ea := A3 a1 a2
    rw [ea] at B1 B2 B3 ⊢
    have b1 : b.low = none ∨ ∃ l, b.low = some l ∧ l ≤ v + a.add + b.add := by
      cases f : b.low with
      | none => exact .inl rfl
      | some i =>
        refine .inr ⟨i, rfl, ?_⟩
        rcases h1 with h1 | ⟨l, h1, h4⟩
        · unfold endBeh at h1; cases e7 : a.low with
          | none => rw [e7] at h1; rw [f] at h1; cases h1
          | some m => rw [e7] at h1; cases h1
        · unfold endBeh at h1; cases e7 : a.low with
          | none => rw [e7] at h1; rw [f] at h1; cases h1; omega
          | some m => rw [e7] at h1; cases h1; have := ((ap_cases b hb m).1 i f).1; omega
    have b2 : b.high = none ∨ ∃ l, b.high = some l ∧ v + a.add + b.add ≤ l := by
      cases f : b.high with
      | none => exact .inl rfl
      | some i =>
        refine .inr ⟨i, rfl, ?_⟩
        rcases h2 with h2 | ⟨l, h2, h4⟩
        · unfold endBeh at h2; cases e7 : a.high with
          | none => rw [e7] at h2; rw [f] at h2; cases h2
          | some m => rw [e7] at h2; cases h2
        · unfold endBeh at h2; cases e7 : a.high with
          | none => rw [e7] at h2; rw [f] at h2; cases h2; omega
          | some m => rw [e7] at h2; cases h2; have := ((ap_cases b hb m).2.1 i f).1; omega
    rw [B3 b1 b2]; omega
theorem beh_in {a b : Dd} {x y : Int} (ha : a.In x) (hb : b.In y) (h0 : 0 ≤ x) (h1 : 0 ≤ y) : (beh a b).In (y + x) := by
  obtain ⟨a1, a2, a3, a4⟩ := ha
  have hb' := hb
  obtain ⟨b1, b2, b3, b4⟩ := hb
  refine ⟨?_, ?_, fun l hl => ?_, fun l hl => ?_⟩
  · unfold beh; rw [wholeD_add]; split <;> omega
  · unfold beh; rw [wholeD_add]; split <;> omega
  · unfold beh at hl; rw [wholeD_low] at hl; unfold endBeh at hl
    cases e : a.low with
    | none => rw [e] at hl; have := b3 l hl; omega
    | some j => rw [e] at hl; cases hl; exact ap_in hb' (a3 j e).1 (a3 j e).2 h0
  · unfold beh at hl; rw [wholeD_high] at hl; unfold endBeh at hl
    cases e : a.high with
    | none => rw [e] at hl; have := b4 l hl; omega
    | some j => rw [e] at hl; cases hl; exact ap_in hb' (a4 j e).1 (a4 j e).2 h0
/-- far out a deed shows its ends -/
theorem far_low {d : Dd} {b F : Int} (ok : d.Ok) (i : d.In b) (hF : 3 * b + 2 ≤ F) (h0 : 0 ≤ b) : (if d.ap (-F - 1) = d.ap (-F) then some (d.ap (-F)) else none) = d.low := by
  obtain ⟨i1, i2, i3, i4⟩ := i
  cases e : d.low with
  | some l =>
    have := i3 l e
    rw [ap_low ok e (show -F - 1 + d.add ≤ l by omega), ap_low ok e (show -F + d.add ≤ l by omega), if_pos rfl]
  | none =>
    have k : ∀ v : Int, v ≤ -F → d.ap v = v + d.add := fun v hv => by
      refine (ap_cases d ok v).2.2 (.inl e) ?_
      cases f : d.high with
      | none => exact .inl rfl
      | some h => have := i4 h f; exact .inr ⟨h, rfl, by omega⟩
    rw [k _ (by omega), k _ (by omega), if_neg (by omega)]
theorem far_high {d : Dd} {b F : Int} (ok : d.Ok) (i : d.In b) (hF : 3 * b + 2 ≤ F) (h0 : 0 ≤ b) : (if d.ap F = d.ap (F + 1) then some (d.ap F) else none) = d.high := by
  obtain ⟨i1, i2, i3, i4⟩ := i
  cases e : d.high with
  | some l =>
    have := i4 l e
    rw [ap_high ok e (show l ≤ F + 1 + d.add by omega), ap_high ok e (show l ≤ F + d.add by omega), if_pos rfl]
  | none =>
    have k : ∀ v : Int, F ≤ v → d.ap v = v + d.add := fun v hv => by
      refine (ap_cases d ok v).2.2 ?_ (.inl e)
      cases f : d.low with
      | none => exact .inl rfl
      | some h => have := i3 h f; exact .inr ⟨h, rfl, by omega⟩
    rw [k _ (by omega), k _ (by omega), if_neg (by omega)]
theorem bound_of (d : Dd) : ∃ b, 0 ≤ b ∧ d.In b := by
  obtain ⟨a, l, h⟩ := d
  refine ⟨a.natAbs + (l.getD 0).natAbs + (h.getD 0).natAbs, by omega, in_mk (by omega) (by omega) (fun x hx => ?_) fun x hx => ?_⟩
  · cases hx; simp only [Option.getD_some]; omega
  · cases hx; simp only [Option.getD_some]; omega
theorem In.le {d : Dd} {a b : Int} (h : d.In a) (e : a ≤ b) : d.In b := ⟨by have := h.1; omega, by have := h.2.1; omega, fun l hl => by have := h.2.2.1 l hl; omega, fun l hl => by have := h.2.2.2 l hl; omega⟩
/-- there is just one deed that makes the same of all -/
theorem ap_ext {d e : Dd} (hd : d.Ok) (he : e.Ok) (h : ∀ v, d.ap v = e.ap v) : d = e := by
  obtain ⟨b, b0, hb⟩ := bound_of d
  obtain ⟨c, c0, hc⟩ := bound_of e
  have l1 := far_low (F := 3 * (b + c) + 2) hd (In.le hb (show b ≤ b + c by omega)) (by omega) (by omega)
  have l2 := far_low (F := 3 * (b + c) + 2) he (In.le hc (show c ≤ b + c by omega)) (by omega) (by omega)
  have h1 := far_high (F := 3 * (b + c) + 2) hd (In.le hb (show b ≤ b + c by omega)) (by omega) (by omega)
  have h2 := far_high (F := 3 * (b + c) + 2) he (In.le hc (show c ≤ b + c by omega)) (by omega) (by omega)
  rw [h, h, l2] at l1
  rw [h, h, h2] at h1
  have ea : d.add = e.add := by
    cases e1 : d.low with
    | none =>
      cases e2 : d.high with
      | none =>
        have := h 0
        rw [ap_nn d 0 e1 e2, ap_nn e 0 (l1.trans e1) (h1.trans e2)] at this
        omega
      | some k =>
        have := h (k - 1 - b - c)
        have q1 := hb.1; have q2 := hb.2.1; have q3 := hc.1; have q4 := hc.2.1
        rw [ap_ns d _ k e1 e2, ap_ns e _ k (l1.trans e1) (h1.trans e2), if_pos (by omega), if_pos (by omega)] at this
        omega
    | some l =>
      cases e2 : d.high with
      | none =>
        have := h (l + 1 + b + c)
        have q1 := hb.1; have q2 := hb.2.1; have q3 := hc.1; have q4 := hc.2.1
        rw [ap_sn d _ l e1 e2, ap_sn e _ l (l1.trans e1) (h1.trans e2), if_pos (by omega), if_pos (by omega)] at this
        omega
      | some k =>
        have o1 := hd l k e1 e2
        have o2 := he l k (l1.trans e1) (h1.trans e2)
        by_cases c1 : l = k
        · omega
        · have g1 := h (l - d.add)
          have g2 := h (l - d.add + 1)
          obtain ⟨C1, C2, C3⟩ := ap_cases e he (l - d.add)
          obtain ⟨D1, D2, D3⟩ := ap_cases e he (l - d.add + 1)
          rw [ap_low hd e1 (by omega)] at g1
          rw [(ap_cases d hd (l - d.add + 1)).2.2 (.inr ⟨l, e1, by omega⟩) (.inr ⟨k, e2, by omega⟩)] at g2
          have := C1 l (l1.trans e1); have := C2 k (h1.trans e2); have := D1 l (l1.trans e1); have := D2 k (h1.trans e2)
          by_cases c2 : l ≤ l - d.add + e.add
          · by_cases c3 : l - d.add + e.add ≤ k
            · have := C3 (.inr ⟨l, l1.trans e1, c2⟩) (.inr ⟨k, h1.trans e2, c3⟩); omega
            · omega
          · by_cases c3 : l ≤ l - d.add + 1 + e.add
            · have := D3 (.inr ⟨l, l1.trans e1, c3⟩) (.inr ⟨k, h1.trans e2, by omega⟩); omega
            · omega
  obtain ⟨a1, a2, a3⟩ := d
  obtain ⟨b1, b2, b3⟩ := e
  cases ea; cases l1; cases h1
  rfl
theorem beh_assoc {a b c : Dd} (ha : a.Ok) (hb : b.Ok) (hc : c.Ok) : beh (beh a b) c = beh a (beh b c) :=
  ap_ext (beh_ok (beh_ok ha hb) hc) (beh_ok ha (beh_ok hb hc)) fun v => by rw [beh_ap (beh_ok ha hb) hc, beh_ap ha hb, beh_ap ha (beh_ok hb hc), beh_ap hb hc]
theorem look_ap (v : Int) : look.ap v = v := by show v + 0 = v; omega
theorem beh_look {a : Dd} (ha : a.Ok) : beh a look = a := ap_ext (beh_ok ha look_ok) ha fun v => by rw [beh_ap ha look_ok, look_ap]
theorem look_beh {a : Dd} (ha : a.Ok) : beh look a = a := ap_ext (beh_ok look_ok ha) ha fun v => by rw [beh_ap look_ok ha, look_ap]
/-! ### a deed as data -/
def po : Option Int → PyData
  | none => .none
  | some i => .int i
def pd (d : Dd) : PyData := .tuple [.int d.add, po d.low, po d.high]
theorem po_dp {K : PySem.W.Frag} {H : Hp} (o : Option Int) : Dp K H (oV o) (po o) := by
  cases o with
  | none => exact .non
  | some i => exact .int i
theorem pd_dp {K : PySem.W.Frag} {H : Hp} {a : Addr} {d : Dd} (h : SqT K H a d.vs) : Dp K H (.ref a) (pd d) := .tup h (.cons (.int _) (.cons (po_dp _) (.cons (po_dp _) .nil)))
theorem pd_sh (d : Dd) : SeqAt.shaped (pd d) = true := by
  obtain ⟨a, l, h⟩ := d
  cases l <;> cases h <;> rfl
theorem pd_refl (d : Dd) : PyData.eqv (pd d) (pd d) = true := SeqAt.eqv_refl _ (SeqAt.canLay_of_shaped (pd_sh d))
/-- a new tuple with a deed -/
def NewD (H : Hp) (Q : VK) (d : Dd) : Prop := ∀ (a : Addr) (H' : Hp), Same H H' → H a = none → H' a = some (.tup d.vs) → Q (.ref a) H'
abbrev Fx : Int := 10 ^ Int.toNat 64 * 10 ^ Int.toNat 26
theorem Fx_eq : Fx = 10 ^ 90 := by decide
theorem take_snoc {α : Type} {l : List α} {i : Nat} {x : α} (h : l[i]? = some x) : l.take (i + 1) = l.take i ++ [x] := by rw [List.take_succ, h] <;> rfl
/-- a deed's tuple that was made here -/
def Da (H : Hp) (a : Addr) (d : Dd) : Prop := H a = some (.tup d.vs) ∧ d.In (10 ^ 80) ∧ d.Ok
theorem Da.arg {K : PySem.W.Frag} {H : Hp} {a : Addr} {d : Dd} (h : Da H a d) : DeedArg K H a d := ⟨.base (.tup h.1), SqT.of h.1, h.2.2⟩
theorem Da.same {H H' : Hp} {a : Addr} {d : Dd} (e : Same H H') (h : Da H a d) : Da H' a d := ⟨e _ _ h.1, h.2⟩
theorem Da.sq {K : PySem.W.Frag} {H : Hp} {a : Addr} {d : Dd} (h : Da H a d) : SqT K H a d.vs := SqT.of h.1
theorem Da.dp {K : PySem.W.Frag} {H : Hp} {a : Addr} {d : Dd} (h : Da H a d) : Dp K H (.ref a) (pd d) := pd_dp h.sq
theorem ne_pd {d : Dd} : (!PyData.eqv (pd d) (pd d)) = false := by rw [pd_refl] <;> rfl
theorem addT {x : Int} {k : Bool} {p : Prop} [Decidable p] (h : k = true ↔ ¬ p) : x * (if k = true then 1 else 0) = if p then 0 else x := by
  by_cases c : p
  · rw [if_pos c, if_neg (fun z => h.mp z c)]; exact Int.mul_zero _
  · rw [if_neg c, if_pos (h.mpr c)]; exact Int.mul_one _
/-! ### shown data: one look -/
structure Sh (d : PyData) (n c : Nat) : Prop where
  s : d.showable = true
  dep : d.depth ≤ n
  c : cst d ≤ c
theorem shAll {α : Type} {f : α → PyData} {n c : Nat} : ∀ {xs : List α}, (∀ x ∈ xs, Sh (f x) n c) → PyData.showableAll (xs.map f) = true ∧ PyData.depthAll (xs.map f) ≤ n ∧ csts (xs.map f) ≤ (c + 4) * xs.length
  | [], _ => ⟨rfl, Nat.zero_le _, Nat.zero_le _⟩
  | x :: r, h => by
    obtain ⟨h1, h2, h3⟩ := shAll (xs := r) fun y hy => h y (List.mem_cons_of_mem _ hy)
    obtain ⟨g1, g2, g3⟩ := h x List.mem_cons_self
    refine ⟨?_, ?_, ?_⟩
    · simp only [List.map_cons, PyData.showableAll, g1, h1, Bool.and_self]
    · simp only [List.map_cons, PyData.depthAll]; omega
    · simp only [List.map_cons, csts, List.length_cons, Nat.mul_add, Nat.mul_one]; omega
theorem Sh.tup {α : Type} {f : α → PyData} {n c m k j : Nat} {xs : List α} (h : ∀ x ∈ xs, Sh (f x) n c) (hm : n + 1 ≤ m) (hl : xs.length ≤ j) (hk : (c + 4) * j + 4 ≤ k) : Sh (.tuple (xs.map f)) m k := by
  obtain ⟨h1, h2, h3⟩ := shAll h
  have h4 := Nat.mul_le_mul_left (c + 4) hl
  refine ⟨h1, ?_, ?_⟩
  · simp only [PyData.depth]; omega
  · show csts _ + 4 ≤ k; omega
theorem Sh.lst {α : Type} {f : α → PyData} {n c m k j : Nat} {xs : List α} (h : ∀ x ∈ xs, Sh (f x) n c) (hm : n + 1 ≤ m) (hl : xs.length ≤ j) (hk : (c + 4) * j + 4 ≤ k) : Sh (.list (xs.map f)) m k := by
  obtain ⟨h1, h2, h3⟩ := shAll h
  have h4 := Nat.mul_le_mul_left (c + 4) hl
  refine ⟨h1, ?_, ?_⟩
  · simp only [PyData.depth]; omega
  · show csts _ + 4 ≤ k; omega
theorem int_sh {i : Int} (h1 : -(10 ^ 100) ≤ i) (h2 : i ≤ 10 ^ 100) : Sh (.int i) 0 1921 := by
  refine ⟨?_, Nat.le_refl _, Nat.le_refl _⟩
  have : i.natAbs.log2 < 1920 := log_lt (by decide) (Nat.lt_of_le_of_lt (m := 10 ^ 100) (by omega) (by decide))
  simpa [PyData.showable] using this
theorem Sh.mono {d : PyData} {n c n' c' : Nat} (h : Sh d n c) (h1 : n ≤ n') (h2 : c ≤ c') : Sh d n' c' := ⟨h.s, Nat.le_trans h.dep h1, Nat.le_trans h.c h2⟩
theorem rep_ {K : PySem.W.Frag} {σ : L2.St} {H : Hp} {x : V} {d : PyData} {n c : Nat} {Q : VK} (hd : Dp K H x d) (s : Sh d n c) (hn : n ≤ 60 := by decide) (hc : c ≤ 10000000 := by decide) (q : Q (.str d.shown) H) :
    tNil σ H (fun xs H2 => (fun vs H1 => rRepr K vs H1 Q) (x :: xs) H2) :=
  ⟨x, d, rfl, hd, s.s, Nat.le_trans s.dep hn, shown_sz s.s (dp_noDict d x hd) (Nat.le_trans s.c hc), q⟩
theorem dps {α : Type} {K : PySem.W.Frag} {H : Hp} {g : α → V} {f : α → PyData} : ∀ {xs : List α}, (∀ x ∈ xs, Dp K H (g x) (f x)) → DpAll K H (xs.map g) (xs.map f)
  | [], _ => .nil
  | x :: r, h => .cons (h x List.mem_cons_self) (dps fun y hy => h y (List.mem_cons_of_mem _ hy))
theorem po_sh {b : Int} {o : Option Int} (h : ∀ l, o = some l → -b ≤ l ∧ l ≤ b) (hb : b ≤ 10 ^ 100) : Sh (po o) 0 1921 := by
  cases o with
  | none => exact ⟨rfl, Nat.le_refl _, by show 5 ≤ 1921; decide⟩
  | some i => have := h i rfl; exact int_sh (by omega) (by omega)
theorem pd_sh1 {b : Int} {d : Dd} (h : d.In b) (hb : b ≤ 10 ^ 100) : Sh (pd d) 1 6000 := by
  have := h.1; have := h.2.1
  refine Sh.tup (f := id) (n := 0) (c := 1921) (j := 3) (xs := [.int d.add, po d.low, po d.high]) ?_ (Nat.le_refl _) (Nat.le_refl _) (by decide)
  intro x hx
  simp only [List.mem_cons, List.mem_nil_iff, or_false] at hx
  rcases hx with rfl | rfl | rfl
  · exact int_sh (by omega) (by omega)
  · exact po_sh h.2.2.1 hb
  · exact po_sh h.2.2.2 hb
/-! ### boards and asks -/
def BoardAt (H : Hp) (b : Addr) (bs : List Int) : Prop := H b = some (.tup (bs.map V.int)) ∧ 1 ≤ bs.length ∧ bs.length ≤ 16
def Wi (c : Int) (bs : List Int) : Prop := ∀ x ∈ bs, -c ≤ x ∧ x ≤ c
theorem BoardAt.same {H H' : Hp} {b : Addr} {bs : List Int} (e : Same H H') (h : BoardAt H b bs) : BoardAt H' b bs := ⟨e _ _ h.1, h.2⟩
structure Ak where
  a : Addr
  hand : Int
  box : Nat
  da : Addr
  d : Dd
def Ak.vs (x : Ak) : List V := [.int x.hand, .int x.box, .ref x.da]
def Ak.at_ (H : Hp) (nb : Nat) (x : Ak) : Prop := H x.a = some (.tup x.vs) ∧ Da H x.da x.d ∧ 0 ≤ x.hand ∧ x.hand < 16 ∧ x.box < nb
def AsksAt (H : Hp) (k : Addr) (as : List Ak) (nb : Nat) : Prop := H k = some (.tup (as.map fun x => .ref x.a)) ∧ as.length ≤ 40 ∧ ∀ x ∈ as, x.at_ H nb
theorem Ak.at_.same {H H' : Hp} {nb : Nat} {x : Ak} (e : Same H H') (h : x.at_ H nb) : x.at_ H' nb := ⟨e _ _ h.1, h.2.1.same e, h.2.2⟩
theorem AsksAt.same {H H' : Hp} {k : Addr} {as : List Ak} {nb : Nat} (e : Same H H') (h : AsksAt H k as nb) : AsksAt H' k as nb := ⟨e _ _ h.1, h.2.1, fun x hx => (h.2.2 x hx).same e⟩
theorem Da.but {p : Addr} {ys : List V} {H H' : Hp} {a : Addr} {d : Dd} (e : But p H H') (hp : H p = some (.lst ys)) (h : Da H a d) : Da H' a d := ⟨e _ _ (ne_of h.1 hp (by intro z; cases z)) h.1, h.2⟩
theorem Ak.at_.but {p : Addr} {ys : List V} {H H' : Hp} {nb : Nat} {x : Ak} (e : But p H H') (hp : H p = some (.lst ys)) (h : x.at_ H nb) : x.at_ H' nb := ⟨e _ _ (ne_of h.1 hp (by intro z; cases z)) h.1, h.2.1.but e hp, h.2.2⟩
def Ak.pd (x : Ak) : PyData := .tuple [.int x.hand, .int x.box, Toy.pd x.d]
theorem Ak.at_.dp {K : PySem.W.Frag} {H : Hp} {nb : Nat} {x : Ak} (h : x.at_ H nb) : Dp K H (.ref x.a) x.pd := .tup (SqT.of h.1) (.cons (.int _) (.cons (.int _) (.cons h.2.1.dp .nil)))
theorem Ak.at_.sh {H : Hp} {nb : Nat} {x : Ak} (h : x.at_ H nb) (hn : nb ≤ 16) : Sh x.pd 2 19000 := by
  refine Sh.tup (f := id) (n := 1) (c := 6000) (j := 3) (xs := [.int x.hand, .int x.box, Toy.pd x.d]) ?_ (Nat.le_refl _) (Nat.le_refl _) (by decide)
  have := h.2.2
  intro y hy
  simp only [List.mem_cons, List.mem_nil_iff, or_false] at hy
  rcases hy with rfl | rfl | rfl
  · exact (int_sh (by omega) (by omega)).mono (by decide) (by decide)
  · exact (int_sh (by omega) (by omega)).mono (by decide) (by decide)
  · exact pd_sh1 h.2.1.2.1 (by decide)
def intsD (bs : List Int) : PyData := .tuple (bs.map PyData.int)
theorem ints_sh1 {bs : List Int} {c : Int} {n : Nat} (h : Wi c bs) (hc : c ≤ 10 ^ 100) (hn : bs.length ≤ n) : Sh (intsD bs) 1 (1925 * n + 4) :=
  Sh.tup (n := 0) (c := 1921) (j := n) (fun x hx => have := h x hx; int_sh (by omega) (by omega)) (Nat.le_refl _) hn (by omega)
theorem BoardAt.dp {K : PySem.W.Frag} {H : Hp} {b : Addr} {bs : List Int} (h : BoardAt H b bs) : Dp K H (.ref b) (intsD bs) := tupI_dp (SqT.of h.1)
def akD (as : List Ak) : PyData := .tuple (as.map Ak.pd)
theorem AsksAt.dp {K : PySem.W.Frag} {H : Hp} {k : Addr} {as : List Ak} {nb : Nat} (h : AsksAt H k as nb) : Dp K H (.ref k) (akD as) := .tup (SqT.of h.1) (dps fun x hx => (h.2.2 x hx).dp)
theorem AsksAt.sh {H : Hp} {k : Addr} {as : List Ak} {nb : Nat} (h : AsksAt H k as nb) (hn : nb ≤ 16) : Sh (akD as) 3 800000 :=
  Sh.tup (n := 2) (c := 19000) (j := 40) (fun x hx => (h.2.2 x hx).sh hn) (Nat.le_refl _) h.2.1 (by decide)
/-! ### asks played -/
def stepP (s : List Int × List Int) (x : Ak) : List Int × List Int := (s.1 ++ [s.2.getD x.box 0], s.2.set x.box (x.d.ap (s.2.getD x.box 0)))
def play (as : List Ak) (bs : List Int) : List Int × List Int := as.foldl stepP ([], bs)
theorem play_snoc {as : List Ak} {bs : List Int} {i : Nat} {x : Ak} (h : as[i]? = some x) : play (as.take (i + 1)) bs = stepP (play (as.take i) bs) x := by
  unfold play; rw [take_snoc h, List.foldl_append] <;> rfl
theorem Wi.set {c : Int} {bs : List Int} {i : Nat} {v : Int} (h : Wi c bs) (h1 : -c ≤ v) (h2 : v ≤ c) : Wi c (bs.set i v) := fun x hx => by
  rcases List.mem_or_eq_of_mem_set hx with h3 | h3
  · exact h x h3
  · subst h3; exact ⟨h1, h2⟩
theorem Wi.mono {c c' : Int} {bs : List Int} (h : Wi c bs) (e : c ≤ c') : Wi c' bs := fun x hx => by have := h x hx; omega
theorem Wi.get {c : Int} {bs : List Int} {i : Nat} (h : Wi c bs) (h0 : 0 ≤ c) : -c ≤ bs.getD i 0 ∧ bs.getD i 0 ≤ c := by
  rw [List.getD_eq_getElem?_getD]
  cases e : bs[i]? with
  | none => show -c ≤ 0 ∧ 0 ≤ c; omega
  | some x => exact h x (List.mem_of_getElem? e)
theorem snoc_ind {α : Type} {p : List α → Prop} (nil : p []) (snoc : ∀ l x, p l → p (l ++ [x])) (l : List α) : p l := by
  have h : ∀ l : List α, p l.reverse := fun l => by
    induction l with
    | nil => exact nil
    | cons x r ih => rw [List.reverse_cons]; exact snoc _ _ ih
  have := h l.reverse
  rwa [List.reverse_reverse] at this
theorem play_in {H : Hp} {nb : Nat} {bs : List Int} {c : Int} (hc : 0 ≤ c) (hb : Wi c bs) : ∀ {as : List Ak}, (∀ x ∈ as, x.at_ H nb) → (play as bs).1.length = as.length ∧ (play as bs).2.length = bs.length ∧ Wi (c + as.length * 10 ^ 80) (play as bs).1 ∧ Wi (c + as.length * 10 ^ 80) (play as bs).2 := by
  intro as
  induction as using snoc_ind with
  | nil => exact fun _ => ⟨rfl, rfl, (fun x hx => (nomatch hx)), hb.mono (by show c ≤ c + ((0 : Nat) : Int) * _; omega)⟩
  | snoc as x ih =>
    intro h
    obtain ⟨i1, i2, i3, i4⟩ := ih fun y hy => h y (List.mem_append_left _ hy)
    have hx := h x (List.mem_append_right _ List.mem_cons_self)
    have e : play (as ++ [x]) bs = stepP (play as bs) x := by unfold play; rw [List.foldl_append] <;> rfl
    have hg := i4.get (i := x.box) (by omega)
    have ha := ap_in (v := (play as bs).2.getD x.box 0) hx.2.1.2.1 hg.1 hg.2 (by omega)
    rw [e]
    have el : (((as ++ [x]).length : Nat) : Int) = as.length + 1 := by simp
    rw [el]
    refine ⟨?_, ?_, ?_, ?_⟩
    · show (_ ++ [_]).length = _; simp [i1]
    · show (List.set _ _ _).length = _; simp [i2]
    · intro y hy
      rcases List.mem_append.mp (show y ∈ _ ++ [_] from hy) with h3 | h3
      · have := i3 y h3; omega
      · have := List.mem_singleton.mp h3; subst this; omega
    · exact Wi.set (i4.mono (by omega)) (by omega) (by omega)
theorem menu8 : ∀ j : Nat, j < 8 → ∃ z : Int, ([.int 2147483629, .int 2147483587, .int 2147483579, .int 2147483563, .int 2147483549, .int 2147483543, .int 2147483497, .int 2147483489] : List V)[j]? = some (.int z) ∧ 0 < z ∧ z ≤ 2147483629
  | 0, _ => ⟨_, rfl, by decide, by decide⟩
  | 1, _ => ⟨_, rfl, by decide, by decide⟩
  | 2, _ => ⟨_, rfl, by decide, by decide⟩
  | 3, _ => ⟨_, rfl, by decide, by decide⟩
  | 4, _ => ⟨_, rfl, by decide, by decide⟩
  | 5, _ => ⟨_, rfl, by decide, by decide⟩
  | 6, _ => ⟨_, rfl, by decide, by decide⟩
  | 7, _ => ⟨_, rfl, by decide, by decide⟩
  | n + 8, h => absurd h (by omega)
theorem at3 {x0 x1 x2 : Int} : ∀ j : Nat, j < 3 → ∃ z : Int, ([.int x0, .int x1, .int x2] : List V)[j]? = some (.int z) ∧ (z = x0 ∨ z = x1 ∨ z = x2)
  | 0, _ => ⟨_, rfl, .inl rfl⟩
  | 1, _ => ⟨_, rfl, .inr (.inl rfl)⟩
  | 2, _ => ⟨_, rfl, .inr (.inr rfl)⟩
  | n + 3, h => absurd h (by omega)
theorem but_upd {p D : Addr} {H H1 : Hp} {o : HO} (n : H D = none) (a : But p H H1) : But p H (upd H1 D o) := fun b u hb e => by rw [upd_ne (ne_of_none e n)]; exact a b u hb e
theorem PotAt.upd {H : Hp} {p D : Addr} {o : HO} (n : p ≠ D) (h : PotAt H p) : PotAt (L2.upd H D o) p := by
  obtain ⟨a, b, h1, h2⟩ := h
  exact ⟨a, b, by rw [upd_ne n]; exact h1, h2⟩
theorem Wi.snoc {c : Int} {bs : List Int} {x : Int} (h : Wi c bs) (h1 : -c ≤ x) (h2 : x ≤ c) : Wi c (bs ++ [x]) := fun y hy => by
  rcases List.mem_append.mp hy with h3 | h3
  · exact h y h3
  · have := List.mem_singleton.mp h3; subst this; exact ⟨h1, h2⟩
theorem play_len {as : List Ak} {bs : List Int} : (play as bs).1.length = as.length ∧ (play as bs).2.length = bs.length := by
  induction as using snoc_ind with
  | nil => exact ⟨rfl, rfl⟩
  | snoc as x ih =>
    have e : play (as ++ [x]) bs = stepP (play as bs) x := by unfold play; rw [List.foldl_append] <;> rfl
    rw [e]
    refine ⟨?_, ?_⟩
    · show (_ ++ [_]).length = _; simp [ih.1]
    · show (List.set _ _ _).length = _; simp [ih.2]
theorem map_getD {us : List Int} {i : Nat} (h : i < us.length) : (us.map V.int)[i]? = some (.int (us.getD i 0)) := by
  rw [List.getElem?_map, List.getD_eq_getElem?_getD, List.getElem?_eq_getElem h] <;> rfl
/-- what is told of asks played -/
def TwoAt (H : Hp) (r : Addr) (s : List Int × List Int) : Prop := ∃ t1 t2, H r = some (.tup [.ref t1, .ref t2]) ∧ H t1 = some (.tup (s.1.map V.int)) ∧ H t2 = some (.tup (s.2.map V.int))
theorem TwoAt.same {H H' : Hp} {r : Addr} {s : List Int × List Int} (e : Same H H') (h : TwoAt H r s) : TwoAt H' r s := by
  obtain ⟨a, b, h1, h2, h3⟩ := h
  exact ⟨a, b, e _ _ h1, e _ _ h2, e _ _ h3⟩
def twoD (s : List Int × List Int) : PyData := .tuple [intsD s.1, intsD s.2]
theorem TwoAt.dp {K : PySem.W.Frag} {H : Hp} {r : Addr} {s : List Int × List Int} (h : TwoAt H r s) : Dp K H (.ref r) (twoD s) := by
  obtain ⟨a, b, h1, h2, h3⟩ := h
  exact .tup (SqT.of h1) (.cons (tupI_dp (SqT.of h2)) (.cons (tupI_dp (SqT.of h3)) .nil))
theorem play_sh {H : Hp} {k : Addr} {as : List Ak} {bs : List Int} {c : Int} (hk : AsksAt H k as bs.length) (hn : bs.length ≤ 16) (hw : Wi c bs) (h0 : 0 ≤ c) (hc : c ≤ 10 ^ 91) : Sh (twoD (play as bs)) 2 160000 := by
  obtain ⟨h1, h2, h3, h4⟩ := play_in h0 hw hk.2.2
  have h40 := hk.2.1
  have hb : c + (as.length : Int) * 10 ^ 80 ≤ 10 ^ 100 := by omega
  refine Sh.tup (f := id) (n := 1) (c := 77004) (j := 2) (xs := [intsD (play as bs).1, intsD (play as bs).2]) ?_ (Nat.le_refl _) (Nat.le_refl _) (by decide)
  intro x hx
  simp only [List.mem_cons, List.mem_nil_iff, or_false] at hx
  rcases hx with rfl | rfl
  · exact ints_sh1 (n := 40) h3 hb (by omega)
  · exact ints_sh1 (n := 40) h4 hb (by omega)
/-! ### data: figures of a number -/
def fig (k n at_ : Nat) : Int := Builtin.bitAnd ((n : Int) / 2 ^ (((k : Int) - 1 - at_).toNat)) 1
def figs (k n : Nat) : List Int := (List.range k).map (fig k n)
def num (fs : List Int) : Int := fs.foldl (fun f o => 2 * f + o) 0
def lline (k h g lv : Nat) : Int := num ((figs k g).take lv ++ (figs k h).drop lv)
def low (k h g lv : Nat) : Int := Builtin.bitOr ((g : Int) / 2 ^ ((k : Int) - lv).toNat * 2 ^ ((k : Int) - lv).toNat) (Builtin.bitAnd h (1 * 2 ^ ((k : Int) - lv).toNat - 1))
def nwo (k l st : Nat) : Int := Builtin.bitOr ((l : Int) / 2 ^ ((k : Int) - st + 1).toNat * 2 ^ ((k : Int) - st).toNat) (Builtin.bitAnd l (1 * 2 ^ ((k : Int) - st).toNat - 1))
def nums (k l st : Nat) : Int := num ((figs k l).take (st - 1) ++ (figs k l).drop st)
theorem low_is : ∀ k, k < 5 → ∀ h, h < 2 ^ k → ∀ g, g < 2 ^ k → ∀ lv, lv < k + 1 → low k h g lv = lline k h g lv := by decide +kernel
theorem lline_in : ∀ k, k < 5 → ∀ h, h < 2 ^ k → ∀ g, g < 2 ^ k → ∀ lv, lv < k + 1 → 0 ≤ lline k h g lv ∧ lline k h g lv < 2 ^ k := by decide +kernel
theorem nwo_is : ∀ k, k < 5 → ∀ l, l < 2 ^ k → ∀ st, st < k + 1 → st = 0 ∨ nwo k l st = nums k l st := by decide +kernel
theorem nums_same : ∀ k, k < 5 → ∀ h, h < 2 ^ k → ∀ g, g < 2 ^ k → ∀ st, st < k → nums k (lline k h g (st + 1)).toNat (st + 1) = nums k (lline k h g st).toNat (st + 1) := by decide +kernel
theorem cut_to {xs : List V} (n : Nat) : cutV xs none (some (n : Int)) = xs.take n := by
  unfold cutV
  rw [HT.sIx_nat, HT.sIx_none, List.drop_zero, Nat.sub_zero]
  by_cases c : n ≤ xs.length
  · rw [Nat.min_eq_left c]
  · rw [Nat.min_eq_right (by omega), List.take_length, List.take_of_length_le (by omega)]
theorem cut_from {xs : List V} (n : Nat) : cutV xs (some (n : Int)) none = xs.drop n := by
  unfold cutV
  rw [HT.sIx_nat, HT.sIx_none]
  by_cases c : n ≤ xs.length
  · rw [Nat.min_eq_left c]
    exact List.take_of_length_le (by rw [List.length_drop]; omega)
  · rw [Nat.min_eq_right (by omega), Nat.sub_self, List.take_zero, List.drop_of_length_le (by omega)]
theorem bits_one : Builtin.Int.intBits 1 ≤ 10 := by decide +kernel
theorem shl_ok {n : Nat} (h : n ≤ 1000) : CShl 1 (n : Int) := by
  have := bits_one
  exact ⟨by omega, by omega⟩
theorem shl_small {i j : Int} (h : i.natAbs < 2 ^ 64) (h0 : 0 ≤ j) (h1 : j ≤ 1000) : CShl i j := by
  refine ⟨h0, ?_⟩
  have h2 := log_lt (n := 64) (by decide) h
  unfold Builtin.Int.intBits
  split <;> omega
theorem div_small {g m : Nat} (h : g < 2 ^ 64) : ((g : Int) / 2 ^ m).natAbs < 2 ^ 64 := by
  have e : (g : Int) / 2 ^ m = ((g / 2 ^ m : Nat) : Int) := by push_cast; rfl
  rw [e, Int.natAbs_natCast]
  exact Nat.lt_of_le_of_lt (Nat.div_le_self _ _) h
theorem pow16 {k g : Nat} (hk : k ≤ 4) (h : g < 2 ^ k) : g < 16 := Nat.lt_of_lt_of_le h (Nat.pow_le_pow_right (by decide) hk : 2 ^ k ≤ 2 ^ 4)
def Bits (fs : List Int) : Prop := (∀ x ∈ fs, 0 ≤ x ∧ x ≤ 1) ∧ fs.length ≤ 10
theorem figs_all : ∀ k, k < 5 → ∀ n, n < 2 ^ k → (figs k n).all (fun x => decide (0 ≤ x) && decide (x ≤ 1)) = true := by decide +kernel
theorem figs_bits {k n : Nat} (h : k ≤ 4) (hn : n < 2 ^ k) : Bits (figs k n) := by
  have h1 := figs_all k (by omega) n hn
  rw [List.all_eq_true] at h1
  refine ⟨fun x hx => ?_, by unfold figs; rw [List.length_map, List.length_range]; omega⟩
  have := h1 x hx
  simpa using this
theorem Bits.cat {k : Nat} {xs ys : List Int} (h : k ≤ 4) (a : ∀ x ∈ xs, 0 ≤ x ∧ x ≤ 1) (b : ∀ x ∈ ys, 0 ≤ x ∧ x ≤ 1) (i j : Nat) (hx : xs.length ≤ 5) (hy : ys.length ≤ 5) : Bits (xs.take i ++ ys.drop j) := by
  refine ⟨fun x hm => ?_, by rw [List.length_append, List.length_take, List.length_drop]; omega⟩
  rcases List.mem_append.mp hm with h | h
  · exact a x (List.mem_of_mem_take h)
  · exact b x (List.mem_of_mem_drop h)
theorem num_snoc {fs : List Int} {x : Int} : num (fs ++ [x]) = 2 * num fs + x := by unfold num; rw [List.foldl_append] <;> rfl
theorem num_in : ∀ {fs : List Int} (n : Nat), Bits fs → 0 ≤ num (fs.take n) ∧ num (fs.take n) < 2 ^ n := by
  intro fs n h
  induction n with
  | zero => rw [List.take_zero]; exact ⟨by decide, by decide⟩
  | succ n ih =>
    by_cases c : n < fs.length
    · rw [List.take_succ_eq_append_getElem c, num_snoc]
      have := h.1 _ (List.getElem_mem c)
      have e : (2 : Int) ^ (n + 1) = 2 ^ n * 2 := Int.pow_succ 2 n
      omega
    · rw [List.take_of_length_le (by omega)]
      rw [List.take_of_length_le (by omega)] at ih
      have e : (2 : Int) ^ (n + 1) = 2 ^ n * 2 := Int.pow_succ 2 n
      omega
theorem figs_len {k n : Nat} : (figs k n).length = k := by unfold figs; rw [List.length_map, List.length_range]
theorem repF_len {n : Nat} : ((List.replicate n false).map V.bl).length = n := by rw [List.length_map, List.length_replicate]
theorem repF_snoc {n : Nat} : (List.replicate n false).map V.bl ++ [V.bl false] = (List.replicate (n + 1) false).map V.bl := by rw [List.replicate_succ', List.map_append] <;> rfl
theorem repF_any (n : Nat) : (List.replicate n false).any id = false := by
  induction n with
  | zero => rfl
  | succ n ih => rw [List.replicate_succ, List.any_cons, ih] <;> rfl
def SwAt (H : Hp) (T : Addr) (k h g : Nat) : Prop := ∃ as : List Addr, H T = some (.tup (as.map V.ref)) ∧ as.length = k ∧ ∀ (j : Nat) (a : Addr), as[j]? = some a → H a = some (.tup [.int ((j + 1 : Nat) : Int), .int (nwo k (lline k h g j).toNat (j + 1))])
theorem primes6 : ∀ j : Nat, j < 6 → ∃ z : Int, ([.int 2147483647, .int 2147483629, .int 2147483587, .int 2147483579, .int 2147483563, .int 2147483549] : List V)[j]? = some (.int z) ∧ 2147483549 ≤ z ∧ z ≤ 2147483647
  | 0, _ => ⟨_, rfl, by decide, by decide⟩
  | 1, _ => ⟨_, rfl, by decide, by decide⟩
  | 2, _ => ⟨_, rfl, by decide, by decide⟩
  | 3, _ => ⟨_, rfl, by decide, by decide⟩
  | 4, _ => ⟨_, rfl, by decide, by decide⟩
  | 5, _ => ⟨_, rfl, by decide, by decide⟩
  | n + 6, h => absurd h (by omega)
/-! ### rows of pairs -/
def PtsAt (H : Hp) (ts : List Addr) (ps : List (Nat × Nat)) : Prop := ts.length = ps.length ∧ ∀ (j : Nat) (t : Addr) (p : Nat × Nat), ts[j]? = some t → ps[j]? = some p → H t = some (.tup [.int (p.1 : Nat), .int (p.2 : Nat)])
theorem PtsAt.same {H H' : Hp} {ts : List Addr} {ps : List (Nat × Nat)} (e : Same H H') (h : PtsAt H ts ps) : PtsAt H' ts ps := ⟨h.1, fun j t p h1 h2 => e _ _ (h.2 j t p h1 h2)⟩
theorem PtsAt.app {H : Hp} {ts us : List Addr} {ps qs : List (Nat × Nat)} (a : PtsAt H ts ps) (b : PtsAt H us qs) : PtsAt H (ts ++ us) (ps ++ qs) := by
  refine ⟨by rw [List.length_append, List.length_append, a.1, b.1], fun j t p h1 h2 => ?_⟩
  by_cases c : j < ts.length
  · rw [List.getElem?_append_left c] at h1
    rw [List.getElem?_append_left (by rw [← a.1]; exact c)] at h2
    exact a.2 j t p h1 h2
  · rw [List.getElem?_append_right (by omega)] at h1
    rw [List.getElem?_append_right (by rw [← a.1]; omega)] at h2
    rw [← a.1] at h2
    exact b.2 _ t p h1 h2
theorem PtsAt.one {H : Hp} {t : Addr} {p : Nat × Nat} (h : H t = some (.tup [.int (p.1 : Nat), .int (p.2 : Nat)])) : PtsAt H [t] [p] := by
  refine ⟨rfl, fun j t' p' h1 h2 => ?_⟩
  cases j with
  | zero => cases (Option.some.inj h1); cases (Option.some.inj h2); exact h
  | succ j => simp at h1
theorem PtsAt.keep {H H' : Hp} {ts : List Addr} {ps : List (Nat × Nat)} (h : PtsAt H ts ps) (k : ∀ t xs, H t = some (.tup xs) → H' t = some (.tup xs)) : PtsAt H' ts ps :=
  ⟨h.1, fun j t p h1 h2 => k _ _ (h.2 j t p h1 h2)⟩
/-- each is a pair of a hand and a side -/
def APr (H : Hp) (k : Nat) (ts : List Addr) : Prop := ∀ t ∈ ts, ∃ h g : Nat, H t = some (.tup [.int (h : Nat), .int (g : Nat)]) ∧ h < 2 ^ k ∧ g < 2 ^ k
theorem APr.same {H H' : Hp} {k : Nat} {ts : List Addr} (e : Same H H') (a : APr H k ts) : APr H' k ts := fun t ht => by
  obtain ⟨h, g, h1, h2⟩ := a t ht
  exact ⟨h, g, e _ _ h1, h2⟩
theorem APr.keep {H H' : Hp} {k : Nat} {ts : List Addr} (e : ∀ t xs, H t = some (.tup xs) → H' t = some (.tup xs)) (a : APr H k ts) : APr H' k ts := fun t ht => by
  obtain ⟨h, g, h1, h2⟩ := a t ht
  exact ⟨h, g, e _ _ h1, h2⟩
theorem APr.sub {H : Hp} {k : Nat} {ts us : List Addr} (a : APr H k ts) (h : ∀ t ∈ us, t ∈ ts) : APr H k us := fun t ht => a t (h t ht)
theorem APr.app {H : Hp} {k : Nat} {ts us : List Addr} (a : APr H k ts) (b : APr H k us) : APr H k (ts ++ us) := fun t ht => (List.mem_append.mp ht).elim (a t) (b t)
theorem APr.pts {H : Hp} {k : Nat} : ∀ {ts : List Addr}, APr H k ts → ∃ ps, PtsAt H ts ps ∧ ∀ p ∈ ps, p.1 < 2 ^ k ∧ p.2 < 2 ^ k
  | [], _ => ⟨[], ⟨rfl, fun j t p h => by simp at h⟩, fun p hp => absurd hp List.not_mem_nil⟩
  | t :: ts, a => by
    obtain ⟨h, g, h1, h2, h3⟩ := a t List.mem_cons_self
    obtain ⟨ps, q1, q2⟩ := APr.pts (a.sub fun t ht => List.mem_cons_of_mem _ ht)
    refine ⟨(h, g) :: ps, PtsAt.app (ts := [t]) (ps := [(h, g)]) (PtsAt.one h1) q1, fun p hp => ?_⟩
    rcases List.mem_cons.mp hp with e | e
    · rw [e]; exact ⟨h2, h3⟩
    · exact q2 p e
theorem PtsAt.rev {H : Hp} {ts : List Addr} {ps : List (Nat × Nat)} (a : PtsAt H ts ps) : PtsAt H ts.reverse ps.reverse := by
  refine ⟨by rw [List.length_reverse, List.length_reverse, a.1], fun j t p h1 h2 => ?_⟩
  have l1 := (List.getElem?_eq_some_iff.mp h1).1
  have l2 := (List.getElem?_eq_some_iff.mp h2).1
  rw [List.length_reverse] at l1 l2
  rw [List.getElem?_reverse l1] at h1
  rw [List.getElem?_reverse l2] at h2
  rw [← a.1] at h2
  exact a.2 _ t p h1 h2
theorem APr.rev {H : Hp} {k : Nat} {ts : List Addr} (a : APr H k ts) : APr H k ts.reverse := a.sub fun t ht => List.mem_reverse.mp ht
/-! ### the first shared line: the plain law -/
def lns (k : Nat) (ps : List (Nat × Nat)) (lv : Nat) : List Int := ps.map fun p => lline k p.1 p.2 lv
def Rp (L : List Int) (x : Int) : Prop := 1 < L.count x
def Fst (f : Nat → List Int) (k : Nat) : Option (Nat × Int) → Prop
  | none => ∀ lv, lv ≤ k → ∀ x, ¬ Rp (f lv) x
  | some (lv, x) => lv ≤ k ∧ Rp (f lv) x ∧ (∀ y, Rp (f lv) y → x ≤ y) ∧ ∀ lv', lv' < lv → ∀ y, ¬ Rp (f lv') y
theorem Fst.uniq {f : Nat → List Int} {k : Nat} {r r' : Option (Nat × Int)} (a : Fst f k r) (b : Fst f k r') : r = r' := by
  cases r with
  | none =>
    cases r' with
    | none => rfl
    | some p =>
      obtain ⟨lv, x⟩ := p
      obtain ⟨b1, b2, _⟩ := b
      exact absurd b2 (a lv b1 x)
  | some p =>
    obtain ⟨lv, x⟩ := p
    obtain ⟨a1, a2, a3, a4⟩ := a
    cases r' with
    | none => exact absurd a2 (b lv a1 x)
    | some p' =>
      obtain ⟨lv', x'⟩ := p'
      obtain ⟨b1, b2, b3, b4⟩ := b
      have e : lv = lv' := by
        rcases Nat.lt_trichotomy lv lv' with c | c | c
        · exact absurd a2 (b4 lv c x)
        · exact c
        · exact absurd b2 (a4 lv' c x')
      subst e
      have e2 : x = x' := Int.le_antisymm (a3 x' b2) (b3 x a2)
      rw [e2]
theorem Fst.perm {f g : Nat → List Int} {k : Nat} {r : Option (Nat × Int)} (h : ∀ lv, (f lv).Perm (g lv)) (a : Fst f k r) : Fst g k r := by
  have e : ∀ lv x, Rp (g lv) x ↔ Rp (f lv) x := fun lv x => by unfold Rp; rw [(h lv).count_eq]
  cases r with
  | none => exact fun lv hl x c => a lv hl x ((e lv x).mp c)
  | some p =>
    obtain ⟨lv, x⟩ := p
    obtain ⟨a1, a2, a3, a4⟩ := a
    exact ⟨a1, (e _ _).mpr a2, fun y hy => a3 y ((e _ _).mp hy), fun lv' h' y hy => a4 lv' h' y ((e _ _).mp hy)⟩
theorem lns_rev {k : Nat} {ps : List (Nat × Nat)} {lv : Nat} : (lns k ps.reverse lv).Perm (lns k ps lv) := by
  unfold lns
  rw [List.map_reverse]
  exact List.reverse_perm _
theorem nodup_count : ∀ {S : List Int} (y : Int), S.Nodup → S.count y ≤ 1
  | [], _, _ => by simp
  | x :: S, y, h => by
    rw [List.nodup_cons] at h
    rw [List.count_cons]
    have ih := nodup_count y h.2
    by_cases c : x = y
    · subst c
      rw [List.count_eq_zero.mpr h.1]
      split <;> omega
    · rw [if_neg (by simpa using c)]
      omega
/-- in a sorted row the first two neighbours that are alike are the least that is there twice -/
theorem sorted_next {S : List Int} (h : S.Pairwise (· ≤ ·)) {i : Nat} {x : Int} (h1 : S[i]? = some x) (h2 : S[i + 1]? = some x) : Rp S x := by
  obtain ⟨l1, e1⟩ := List.getElem?_eq_some_iff.mp h1
  obtain ⟨l2, e2⟩ := List.getElem?_eq_some_iff.mp h2
  have e : S = S.take i ++ x :: x :: S.drop (i + 2) := by
    conv => lhs; rw [← List.take_append_drop i S]
    congr 1
    rw [List.drop_eq_getElem_cons l1, List.drop_eq_getElem_cons l2, e1, e2]
  unfold Rp
  rw [e, List.count_append, List.count_cons_self, List.count_cons_self]
  omega
theorem no_next {S : List Int} (h : S.Pairwise (· ≤ ·)) {i : Nat} (hn : ∀ j x, j < i → S[j]? = some x → S[j + 1]? ≠ some x) : ∀ y, Rp S y → ∀ x, S[i]? = some x → x ≤ y := by
  intro y hy x hx
  -- else all y stand ahead of i, and no two of them beside one another
  refine Classical.byContradiction fun c => ?_
  have c2 : y < x := by omega
  obtain ⟨li, ei⟩ := List.getElem?_eq_some_iff.mp hx
  have strict : ∀ a b : Nat, ∀ (hab : a < b) (hb : b < S.length), b ≤ i → S[a]'(by omega) < S[b] := by
    intro a b hab
    induction b with
    | zero => omega
    | succ b ih =>
      intro hb hbi
      have h3 := List.pairwise_iff_getElem.mp h b (b + 1) (by omega) hb (by omega)
      have h4 : S[b]'(by omega) ≠ S[b + 1] := fun z => hn b (S[b]'(by omega)) (by omega) (List.getElem?_eq_getElem (by omega)) (by rw [List.getElem?_eq_getElem hb, z])
      rcases Nat.lt_or_ge a b with q | q
      · have := ih q (by omega) (by omega)
        omega
      · obtain rfl : a = b := by omega
        omega
  have one : (S.take (i + 1)).count y ≤ 1 := by
    have nd : (S.take (i + 1)).Nodup := by
      rw [List.nodup_iff_pairwise_ne, List.pairwise_iff_getElem]
      intro a b ha hb hab
      rw [List.length_take] at ha hb
      rw [List.getElem_take, List.getElem_take]
      have := strict a b hab (by omega) (by omega)
      omega
    exact nodup_count y nd
  have zero : (S.drop (i + 1)).count y = 0 := by
    rw [List.count_eq_zero]
    intro m
    obtain ⟨j, hj, e⟩ := List.getElem_of_mem m
    rw [List.length_drop] at hj
    rw [List.getElem_drop] at e
    have := List.pairwise_iff_getElem.mp h i (i + 1 + j) li (by omega) (by omega)
    omega
  have : S.count y = (S.take (i + 1)).count y + (S.drop (i + 1)).count y := by rw [← List.count_append, List.take_append_drop]
  unfold Rp at hy
  omega
theorem no_rep {S : List Int} (h : S.Pairwise (· ≤ ·)) (hn : ∀ j x, S[j]? = some x → S[j + 1]? ≠ some x) : ∀ y, ¬ Rp S y := by
  intro y hy
  have nd : S.Nodup := by
    rw [List.nodup_iff_pairwise_ne, List.pairwise_iff_getElem]
    intro a b ha hb hab
    have strict : ∀ b : Nat, a < b → ∀ (hb : b < S.length), S[a] < S[b] := by
      intro b hab
      induction b with
      | zero => omega
      | succ b ih =>
        intro hb
        have h3 := List.pairwise_iff_getElem.mp h b (b + 1) (by omega) hb (by omega)
        have h4 : S[b]'(by omega) ≠ S[b + 1] := fun z => hn b (S[b]'(by omega)) (List.getElem?_eq_getElem (by omega)) (by rw [List.getElem?_eq_getElem hb, z])
        rcases Nat.lt_or_ge a b with q | q
        · have := ih q (by omega)
          omega
        · obtain rfl : a = b := by omega
          omega
    have := strict b hab hb
    omega
  have := nodup_count y nd
  unfold Rp at hy
  omega
/-! settings (k35): plain facts of figures, lines and switches; wants st3d -/
def fg (k n st : Nat) : Int := Builtin.bitAnd ((n : Int) / 2 ^ ((k : Int) - st).toNat) 1
/-- the line after a switch: crossed where c is 1 -/
def stp (k : Nat) (l : Int) (st : Nat) (c : Int) : Int := Builtin.bitXor l (c * 2 ^ ((k : Int) - st).toNat)
theorem fg_fig : ∀ k, k < 5 → ∀ n, n < 2 ^ k → ∀ i, i < k → fig k n i = fg k n (i + 1) := by decide +kernel
theorem fg_bit : ∀ k, k < 5 → ∀ n, n < 2 ^ k → ∀ i, i < k → fg k n (i + 1) = 0 ∨ fg k n (i + 1) = 1 := by decide +kernel
theorem low_zero : ∀ k, k < 5 → ∀ h, h < 2 ^ k → ∀ g, g < 2 ^ k → low k h g 0 = (h : Nat) := by decide +kernel
theorem low_all : ∀ k, k < 5 → ∀ h, h < 2 ^ k → ∀ g, g < 2 ^ k → low k h g k = (g : Nat) := by decide +kernel
theorem low_step : ∀ k, k < 5 → ∀ h, h < 2 ^ k → ∀ g, g < 2 ^ k → ∀ j, j < k → low k h g (j + 1) = stp k (low k h g j) (j + 1) (Builtin.bitXor (fg k h (j + 1)) (fg k g (j + 1))) := by decide +kernel
theorem nwo_two : ∀ k, k < 5 → ∀ l : Nat, l < 2 ^ k → ∀ m : Nat, m < 2 ^ k → ∀ j, j < k → ¬ nwo k l (j + 1) = nwo k m (j + 1) ∨ l = m ∨ (m : Int) = stp k l (j + 1) 1 := by decide +kernel
theorem nwo_in : ∀ k, k < 5 → ∀ l : Nat, l < 2 ^ k → ∀ j, j < k → 0 ≤ nwo k l (j + 1) ∧ nwo k l (j + 1) < 2 ^ (k - 1) := by decide +kernel
theorem nwo_stp : ∀ k, k < 5 → ∀ l : Nat, l < 2 ^ k → ∀ j, j < k → nwo k (stp k l (j + 1) 1).toNat (j + 1) = nwo k l (j + 1) := by decide +kernel
theorem stp_in : ∀ k, k < 5 → ∀ l : Nat, l < 2 ^ k → ∀ j, j < k → 0 ≤ stp k l (j + 1) 1 ∧ stp k l (j + 1) 1 < 2 ^ k := by decide +kernel
theorem stp_zero : ∀ k, k < 5 → ∀ l : Nat, l < 2 ^ k → ∀ j, j < k → stp k l (j + 1) 0 = (l : Nat) := by decide +kernel
theorem stp_two : ∀ k, k < 5 → ∀ l : Nat, l < 2 ^ k → ∀ j, j < k → stp k (stp k l (j + 1) 1).toNat (j + 1) 1 = (l : Nat) := by decide +kernel
theorem nwo_onto : ∀ k, k < 5 → ∀ j, j < k → ∀ n, n < 2 ^ (k - 1) → ∃ l, l < 2 ^ k ∧ nwo k l (j + 1) = (n : Nat) := by decide +kernel
theorem turn_line : ∀ k, k < 5 → ∀ l : Nat, l < 2 ^ k → ∀ j, j < k → num ((figs k l).set j (1 - fig k l j)) = stp k l (j + 1) 1 := by decide +kernel
theorem stp_far : ∀ k, k < 5 → ∀ l : Nat, l < 2 ^ k → ∀ j, j < k → ∀ i, i < k → i ≠ j → fg k (stp k l (j + 1) 1).toNat (i + 1) = fg k l (i + 1) := by decide +kernel
theorem stp_near : ∀ k, k < 5 → ∀ l : Nat, l < 2 ^ k → ∀ j, j < k → fg k (stp k l (j + 1) 1).toNat (j + 1) = 1 - fg k l (j + 1) := by decide +kernel
/-- the line after j stages, by settings told as numbers -/
def la (k : Nat) (s : Nat → Nat → Int) (h : Nat) : Nat → Nat
  | 0 => h
  | j + 1 => (stp k (la k s h j : Nat) (j + 1) (s j (nwo k (la k s h j) (j + 1)).toNat)).toNat
def Bt (s : Nat → Nat → Int) : Prop := ∀ j n, s j n = 0 ∨ s j n = 1
theorem stp_bit {k l j : Nat} {c : Int} (hk : k < 5) (hl : l < 2 ^ k) (hj : j < k) (hc : c = 0 ∨ c = 1) :
    0 ≤ stp k l (j + 1) c ∧ (stp k l (j + 1) c).toNat < 2 ^ k ∧ (∀ i, i < k → i ≠ j → fg k (stp k l (j + 1) c).toNat (i + 1) = fg k l (i + 1)) ∧ fg k (stp k l (j + 1) c).toNat (j + 1) = Builtin.bitXor (fg k l (j + 1)) c := by
  rcases hc with rfl | rfl
  · rw [stp_zero k hk l hl j hj]
    refine ⟨Int.natCast_nonneg _, by rw [Int.toNat_natCast]; exact hl, fun i _ _ => by rw [Int.toNat_natCast], ?_⟩
    rw [Int.toNat_natCast]
    rcases fg_bit k hk l hl j hj with e | e <;> rw [e] <;> decide
  · have h1 := stp_in k hk l hl j hj
    refine ⟨h1.1, ?_, fun i hi hij => stp_far k hk l hl j hj i hi hij, ?_⟩
    · have h2 := h1.2
      have e : ((2 ^ k : Nat) : Int) = 2 ^ k := by push_cast; rfl
      omega
    · rw [stp_near k hk l hl j hj]
      rcases fg_bit k hk l hl j hj with e | e <;> rw [e] <;> decide
theorem la_in {k : Nat} {s : Nat → Nat → Int} {h : Nat} (hk : k < 5) (hs : Bt s) (hh : h < 2 ^ k) : ∀ j, j ≤ k → la k s h j < 2 ^ k
  | 0, _ => hh
  | j + 1, hj => (stp_bit hk (la_in hk hs hh j (by omega)) (by omega) (hs _ _)).2.1
theorem la_far {k : Nat} {s : Nat → Nat → Int} {h : Nat} (hk : k < 5) (hs : Bt s) (hh : h < 2 ^ k) : ∀ j, j ≤ k → ∀ i, j ≤ i → i < k → fg k (la k s h j) (i + 1) = fg k h (i + 1)
  | 0, _, _, _, _ => rfl
  | j + 1, hj, i, hi, hik => by
    have h1 := (stp_bit hk (la_in hk hs hh j (by omega)) (show j < k by omega) (hs j (nwo k (la k s h j) (j + 1)).toNat)).2.2.1 i hik (by omega)
    exact h1.trans (la_far hk hs hh j (by omega) i (by omega) hik)
theorem la_keep {k : Nat} {s : Nat → Nat → Int} {h : Nat} (hk : k < 5) (hs : Bt s) (hh : h < 2 ^ k) {i : Nat} : ∀ m, i + 1 + m ≤ k → fg k (la k s h (i + 1 + m)) (i + 1) = fg k (la k s h (i + 1)) (i + 1)
  | 0, _ => rfl
  | m + 1, hm => by
    have h1 := (stp_bit hk (la_in hk hs hh (i + 1 + m) (by omega)) (show i + 1 + m < k by omega) (hs (i + 1 + m) (nwo k (la k s h (i + 1 + m)) (i + 1 + m + 1)).toNat)).2.2.1 i (by omega) (by omega)
    exact h1.trans (la_keep hk hs hh m (by omega))
/-- what settings that lead h to g tell at each stage -/
theorem la_xor {k : Nat} {s : Nat → Nat → Int} {h g : Nat} (hk : k < 5) (hs : Bt s) (hh : h < 2 ^ k) (hg : la k s h k = g) {j : Nat} (hj : j < k) :
    s j (nwo k (la k s h j) (j + 1)).toNat = Builtin.bitXor (fg k h (j + 1)) (fg k g (j + 1)) := by
  have h1 := (stp_bit hk (la_in hk hs hh j (by omega)) hj (hs j (nwo k (la k s h j) (j + 1)).toNat)).2.2.2
  have h2 := la_far hk hs hh j (by omega) j (Nat.le_refl _) hj
  have h3 := la_keep hk hs hh (i := j) (k - (j + 1)) (by omega)
  rw [show j + 1 + (k - (j + 1)) = k by omega, hg] at h3
  rw [h3]
  have h4 : fg k (la k s h (j + 1)) (j + 1) = Builtin.bitXor (fg k h (j + 1)) (s j (nwo k (la k s h j) (j + 1)).toNat) := by rw [← h2]; exact h1
  rw [h4]
  rcases hs j (nwo k (la k s h j) (j + 1)).toNat with e | e <;> rcases fg_bit k hk h hh j hj with e2 | e2 <;> rw [e, e2] <;> decide
theorem la_low {k : Nat} {s : Nat → Nat → Int} {h g : Nat} (hk : k < 5) (hs : Bt s) (hh : h < 2 ^ k) (hg : la k s h k = g) : ∀ j, j ≤ k → ((la k s h j : Nat) : Int) = low k h g j
  | 0, _ => (low_zero k hk h hh g (by rw [← hg]; exact la_in hk hs hh k (Nat.le_refl _))).symm
  | j + 1, hj => by
    have hgi : g < 2 ^ k := by rw [← hg]; exact la_in hk hs hh k (Nat.le_refl _)
    rw [low_step k hk h hh g hgi j (by omega), ← la_xor hk hs hh hg (show j < k by omega), ← la_low hk hs hh hg j (by omega)]
    exact Int.toNat_of_nonneg (stp_bit hk (la_in hk hs hh j (by omega)) (show j < k by omega) (hs _ _)).1
/-- each stage keeps lines apart -/
theorem la_inj {k : Nat} {s : Nat → Nat → Int} {h h' : Nat} (hk : k < 5) (hs : Bt s) (hh : h < 2 ^ k) (hh' : h' < 2 ^ k) : ∀ j, j ≤ k → la k s h j = la k s h' j → h = h'
  | 0, _, e => e
  | j + 1, hj, e => by
    refine la_inj hk hs hh hh' j (by omega) ?_
    have i1 := la_in hk hs hh j (by omega)
    have i2 := la_in hk hs hh' j (by omega)
    have jk : j < k := by omega
    have e' : (stp k (la k s h j : Nat) (j + 1) (s j (nwo k (la k s h j) (j + 1)).toNat)).toNat = (stp k (la k s h' j : Nat) (j + 1) (s j (nwo k (la k s h' j) (j + 1)).toNat)).toNat := e
    have n1 : ∀ (l : Nat) (c : Int), l < 2 ^ k → (c = 0 ∨ c = 1) → nwo k (stp k l (j + 1) c).toNat (j + 1) = nwo k l (j + 1) := by
      intro l c hl hc
      rcases hc with rfl | rfl
      · rw [stp_zero k hk l hl j jk, Int.toNat_natCast]
      · exact nwo_stp k hk l hl j jk
    have en : nwo k (la k s h j) (j + 1) = nwo k (la k s h' j) (j + 1) := by
      rw [← n1 _ _ i1 (hs j (nwo k (la k s h j) (j + 1)).toNat), e', n1 _ _ i2 (hs j _)]
    rw [en] at e'
    rcases hs j (nwo k (la k s h' j) (j + 1)).toNat with c | c
    · rw [c, stp_zero k hk _ i1 j jk, stp_zero k hk _ i2 j jk, Int.toNat_natCast, Int.toNat_natCast] at e'
      exact e'
    · rw [c] at e'
      have t1 := stp_two k hk _ i1 j jk
      have t2 := stp_two k hk _ i2 j jk
      rw [e', t2] at t1
      exact (Int.ofNat.inj t1).symm
def crs (k h g j : Nat) : Int := Builtin.bitXor (fg k h (j + 1)) (fg k g (j + 1))
theorem crs_bit {k h g j : Nat} (hk : k < 5) (hh : h < 2 ^ k) (hg : g < 2 ^ k) (hj : j < k) : crs k h g j = 0 ∨ crs k h g j = 1 := by
  unfold crs
  rcases fg_bit k hk h hh j hj with e | e <;> rcases fg_bit k hk g hg j hj with e2 | e2 <;> rw [e, e2] <;> decide
theorem low_nat {k h g j : Nat} (hk : k < 5) (hh : h < 2 ^ k) (hg : g < 2 ^ k) (hj : j ≤ k) : low k h g j = ((low k h g j).toNat : Nat) ∧ (low k h g j).toNat < 2 ^ k := by
  have h1 := lline_in k hk h hh g hg j (by omega)
  rw [← low_is k hk h hh g hg j (by omega)] at h1
  have e : ((2 ^ k : Nat) : Int) = 2 ^ k := by push_cast; rfl
  omega
/-- settings that tell the crossings lead h to g -/
theorem la_by {k : Nat} {s : Nat → Nat → Int} {h g : Nat} (hk : k < 5) (hh : h < 2 ^ k) (hg : g < 2 ^ k)
    (hs : ∀ j, j < k → s j (nwo k (low k h g j).toNat (j + 1)).toNat = crs k h g j) : ∀ j, j ≤ k → ((la k s h j : Nat) : Int) = low k h g j
  | 0, _ => (low_zero k hk h hh g hg).symm
  | j + 1, hj => by
    have ih := la_by hk hh hg hs j (by omega)
    have e1 : la k s h j = (low k h g j).toNat := by omega
    have l1 := low_nat hk hh hg (show j ≤ k by omega)
    have l2 := low_nat hk hh hg hj
    have st := low_step k hk h hh g hg j (by omega)
    show (((stp k (la k s h j : Nat) (j + 1) (s j (nwo k (la k s h j) (j + 1)).toNat)).toNat : Nat) : Int) = _
    rw [e1, hs j (by omega)]
    have e2 : stp k ((low k h g j).toNat : Nat) (j + 1) (crs k h g j) = low k h g (j + 1) := by rw [← l1.1, st] <;> rfl
    rw [e2]
    exact l2.1.symm
theorem la_led {k : Nat} {s : Nat → Nat → Int} {h g : Nat} (hk : k < 5) (hh : h < 2 ^ k) (hg : g < 2 ^ k)
    (hs : ∀ j, j < k → s j (nwo k (low k h g j).toNat (j + 1)).toNat = crs k h g j) : la k s h k = g := by
  have h1 := la_by hk hh hg hs k (Nat.le_refl _)
  rw [low_all k hk h hh g hg] at h1
  exact Int.ofNat.inj h1
/-- two ways by one switch, apart ahead of it and behind it, are crossed alike -/
theorem crs_same {k h g h' g' j : Nat} (hk : k < 5) (hh : h < 2 ^ k) (hg : g < 2 ^ k) (hh' : h' < 2 ^ k) (hg' : g' < 2 ^ k) (hj : j < k)
    (n0 : low k h g j ≠ low k h' g' j) (n1 : low k h g (j + 1) ≠ low k h' g' (j + 1))
    (e : nwo k (low k h g j).toNat (j + 1) = nwo k (low k h' g' j).toNat (j + 1)) : crs k h g j = crs k h' g' j := by
  have l1 := low_nat hk hh hg (show j ≤ k by omega)
  have l2 := low_nat hk hh' hg' (show j ≤ k by omega)
  have s1 := low_step k hk h hh g hg j hj
  have s2 := low_step k hk h' hh' g' hg' j hj
  change _ = stp k (low k h g j) (j + 1) (crs k h g j) at s1
  change _ = stp k (low k h' g' j) (j + 1) (crs k h' g' j) at s2
  rw [l1.1] at s1
  rw [l2.1] at s2
  rcases nwo_two k hk _ l1.2 _ l2.2 j hj with c | c | c
  · exact absurd e c
  · exact absurd (by rw [l1.1, l2.1, c]) n0
  · have t1 := stp_two k hk _ l1.2 j hj
    rw [← c, Int.toNat_natCast] at t1
    rcases crs_bit hk hh hg hj with a | a <;> rcases crs_bit hk hh' hg' hj with b | b
    · rw [a, b]
    · rw [a, stp_zero k hk _ l1.2 j hj] at s1
      rw [b, t1] at s2
      exact absurd (s1.trans s2.symm) n1
    · rw [a, ← c] at s1
      rw [b, stp_zero k hk _ l2.2 j hj] at s2
      exact absurd (s1.trans s2.symm) n1
    · rw [a, b]
theorem pig : ∀ (N : Nat) (f : Nat → Nat), (∀ i, i < N → f i < N) → (∀ i j, i < N → j < N → f i = f j → i = j) → ∀ m, m < N → ∃ i, i < N ∧ f i = m
  | 0, _, _, _, m, hm => absurd hm (Nat.not_lt_zero _)
  | N + 1, f, hf, inj, m, hm => by
    have a1 := hf N (Nat.lt_succ_self _)
    have g1 : ∀ i, i < N → (if f i = N then f N else f i) < N := by
      intro i hi
      have h1 := hf i (by omega)
      split
      · rename_i c
        have : f N ≠ N := fun z => by have := inj i N (by omega) (by omega) (by rw [c, z]); omega
        omega
      · omega
    have g2 : ∀ i j, i < N → j < N → (if f i = N then f N else f i) = (if f j = N then f N else f j) → i = j := by
      intro i j hi hj e
      by_cases c : f i = N <;> by_cases d : f j = N
      · exact inj i j (by omega) (by omega) (by rw [c, d])
      · rw [if_pos c, if_neg d] at e
        have := inj N j (by omega) (by omega) e
        omega
      · rw [if_neg c, if_pos d] at e
        have := inj i N (by omega) (by omega) e
        omega
      · rw [if_neg c, if_neg d] at e
        exact inj i j (by omega) (by omega) e
    by_cases c : m = f N
    · exact ⟨N, Nat.lt_succ_self _, c.symm⟩
    by_cases d : m = N
    · have lt : f N < N := by omega
      obtain ⟨i, hi, e⟩ := pig N _ g1 g2 (f N) lt
      by_cases z : f i = N
      · exact ⟨i, by omega, by omega⟩
      · rw [if_neg z] at e
        have := inj i N (by omega) (by omega) e
        omega
    · obtain ⟨i, hi, e⟩ := pig N _ g1 g2 m (by omega)
      by_cases z : f i = N
      · rw [if_pos z] at e
        exact absurd e.symm c
      · rw [if_neg z] at e
        exact ⟨i, by omega, e⟩
/-- where the ways are apart at a level, each switch behind it has a way -/
theorem sw_onto {k j n : Nat} {g : Nat → Nat} (hk : k < 5) (hj : j < k) (hg : ∀ h, h < 2 ^ k → g h < 2 ^ k)
    (ap : ∀ h h', h < 2 ^ k → h' < 2 ^ k → low k h (g h) j = low k h' (g h') j → h = h') (hn : n < 2 ^ (k - 1)) : ∃ h, h < 2 ^ k ∧ nwo k (low k h (g h) j).toNat (j + 1) = (n : Nat) := by
  obtain ⟨l, hl, e⟩ := nwo_onto k hk j hj n hn
  obtain ⟨h, hh, e2⟩ := pig (2 ^ k) (fun h => (low k h (g h) j).toNat) (fun i hi => (low_nat hk hi (hg i hi) (by omega)).2) (fun a b ha hb e => by
    have l1 := low_nat hk ha (hg a ha) (show j ≤ k by omega)
    have l2 := low_nat hk hb (hg b hb) (show j ≤ k by omega)
    refine ap a b ha hb ?_
    have e' : (low k a (g a) j).toNat = (low k b (g b) j).toNat := e
    rw [l1.1, l2.1, e']) l hl
  exact ⟨h, hh, by rw [show (low k h (g h) j).toNat = l from e2]; exact e⟩
/-! settings (k35): what settings_by writes; wants st14d, st15d -/
/-- ways apart -/
def Ap (k : Nat) (g : Nat → Nat) : Prop := ∀ lv, lv ≤ k → ∀ h h', h < 2 ^ k → h' < 2 ^ k → low k h (g h) lv = low k h' (g h') lv → h = h'
def prs (k : Nat) (g : Nat → Nat) : List (Nat × Nat) := (List.range (2 ^ k)).map fun h => (h, g h)
def Gd (k : Nat) (g : Nat → Nat) : Prop := ∀ h, h < 2 ^ k → g h < 2 ^ k
theorem nodup_of : ∀ {L : List Int}, (∀ x, ¬ Rp L x) → L.Nodup
  | [], _ => List.nodup_nil
  | a :: L, h => by
    rw [List.nodup_cons]
    refine ⟨fun m => h a ?_, nodup_of fun x c => h x ?_⟩
    · unfold Rp
      rw [List.count_cons_self]
      have := List.count_pos_iff.mpr m
      omega
    · unfold Rp at c ⊢
      rw [List.count_cons]
      omega
theorem nodup_inj {f : Nat → Int} {N : Nat} (nd : ((List.range N).map f).Nodup) : ∀ h h', h < N → h' < N → f h = f h' → h = h' := by
  rw [List.nodup_iff_pairwise_ne, List.pairwise_iff_getElem] at nd
  have lt : ∀ h h', h < h' → h' < N → f h ≠ f h' := fun h h' a b => by
    have := nd h h' (by rw [List.length_map, List.length_range]; omega) (by rw [List.length_map, List.length_range]; omega) a
    rwa [List.getElem_map, List.getElem_map, List.getElem_range, List.getElem_range] at this
  intro h h' a b e
  rcases Nat.lt_trichotomy h h' with c | c | c
  · exact absurd e (lt _ _ c b)
  · exact c
  · exact absurd e.symm (lt _ _ c a)
theorem inj_nodup {f : Nat → Int} {N : Nat} (i : ∀ h h', h < N → h' < N → f h = f h' → h = h') : ((List.range N).map f).Nodup := by
  rw [List.nodup_iff_pairwise_ne, List.pairwise_iff_getElem]
  intro a b ha hb c e
  rw [List.length_map, List.length_range] at ha hb
  rw [List.getElem_map, List.getElem_map, List.getElem_range, List.getElem_range] at e
  have := i a b ha hb e
  omega
theorem lns_prs {k lv : Nat} {g : Nat → Nat} (hk : k < 5) (hg : Gd k g) (hl : lv ≤ k) : lns k (prs k g) lv = (List.range (2 ^ k)).map fun h => low k h (g h) lv := by
  unfold lns prs
  rw [List.map_map]
  refine List.map_congr_left fun h hh => ?_
  have hh := List.mem_range.mp hh
  exact (low_is k hk h hh (g h) (hg h hh) lv (by omega)).symm
theorem ap_of {k : Nat} {g : Nat → Nat} (hk : k < 5) (hg : Gd k g) (no : Fst (lns k (prs k g)) k none) : Ap k g := by
  intro lv hl
  have nd := nodup_of (no lv hl)
  rw [lns_prs hk hg hl] at nd
  exact nodup_inj nd
theorem no_of {k : Nat} {g : Nat → Nat} (hk : k < 5) (hg : Gd k g) (ap : Ap k g) : Fst (lns k (prs k g)) k none := by
  intro lv hl x c
  have nd := inj_nodup (ap lv hl)
  rw [← lns_prs hk hg hl] at nd
  have := nodup_count x nd
  unfold Rp at c
  omega
theorem la_ap {k : Nat} {s : Nat → Nat → Int} (hk : k < 5) (hs : Bt s) : Ap k (fun h => la k s h k) := by
  intro lv hl h h' hh hh' e
  have e : low k h (la k s h k) lv = low k h' (la k s h' k) lv := e
  have e1 := la_low hk hs hh (g := la k s h k) rfl lv hl
  have e2 := la_low hk hs hh' (g := la k s h' k) rfl lv hl
  exact la_inj hk hs hh hh' lv hl (by omega)
theorem ap_cong {k : Nat} {g g' : Nat → Nat} (e : ∀ h, h < 2 ^ k → g h = g' h) (ap : Ap k g) : Ap k g' := fun lv hl h h' hh hh' c => ap lv hl h h' hh hh' (by rw [e h hh, e h' hh']; exact c)
def row (k : Nat) (s : Nat → Nat → Int) (j : Nat) : List Int := (List.range (2 ^ (k - 1))).map (s j)
/-- settings that lead alike are alike -/
theorem se_uniq {k : Nat} {s s' : Nat → Nat → Int} {g : Nat → Nat} (hk : k < 5) (hs : Bt s) (hs' : Bt s') (hg : ∀ h, h < 2 ^ k → la k s h k = g h) (hg' : ∀ h, h < 2 ^ k → la k s' h k = g h) : ∀ j, j < k → row k s j = row k s' j := by
  intro j hj
  unfold row
  refine List.map_congr_left fun n hn => ?_
  have hn := List.mem_range.mp hn
  have gd : Gd k g := fun h hh => by rw [← hg h hh]; exact la_in hk hs hh k (Nat.le_refl _)
  have ap : Ap k g := ap_cong hg (la_ap hk hs)
  obtain ⟨h, hh, e⟩ := sw_onto (g := g) hk hj gd (fun h h' a b e => ap j (by omega) h h' a b e) hn
  have a1 := la_xor hk hs hh (hg h hh) hj
  have a2 := la_xor hk hs' hh (hg' h hh) hj
  have l1 := la_low hk hs hh (hg h hh) j (by omega)
  have l2 := la_low hk hs' hh (hg' h hh) j (by omega)
  have e1 : la k s h j = (low k h (g h) j).toNat := by omega
  have e2 : la k s' h j = (low k h (g h) j).toNat := by omega
  rw [e1, e, Int.toNat_natCast] at a1
  rw [e2, e, Int.toNat_natCast] at a2
  rw [a1, a2]
def wr (c : Nat → Nat → Int) (j0 n0 : Nat) (v : Int) : Nat → Nat → Int := fun j n => if j = j0 ∧ n = n0 then v else c j n
theorem wr_bit {c : Nat → Nat → Int} {j n : Nat} {v : Int} (h : Bt c) (hv : v = 0 ∨ v = 1) : Bt (wr c j n v) := fun i m => by
  unfold wr
  split
  · exact hv
  · exact h i m
theorem row_wr {k : Nat} {c : Nat → Nat → Int} {j n : Nat} {v : Int} (hn : n < 2 ^ (k - 1)) : row k (wr c j n v) j = (row k c j).set n v := by
  refine List.ext_getElem? fun i => ?_
  unfold row
  rw [List.getElem?_set, List.length_map, List.length_range, List.getElem?_map, List.getElem?_map]
  by_cases e : n = i
  · subst e
    rw [if_pos rfl, if_pos hn, List.getElem?_range hn]
    show some (wr c j n v j n) = _
    unfold wr
    rw [if_pos ⟨rfl, rfl⟩]
  · rw [if_neg e]
    by_cases l : i < 2 ^ (k - 1)
    · rw [List.getElem?_range l]
      show some (wr c j n v j i) = some (c j i)
      unfold wr
      rw [if_neg (fun z => e z.2.symm)]
    · rw [List.getElem?_eq_none (by rw [List.length_range]; omega)] <;> rfl
theorem row_wr_ne {k : Nat} {c : Nat → Nat → Int} {j i n : Nat} {v : Int} (h : i ≠ j) : row k (wr c j n v) i = row k c i := by
  unfold row
  refine List.map_congr_left fun m _ => ?_
  unfold wr
  rw [if_neg (fun z => h z.1)]
def Wd (k : Nat) (g : Nat → Nat) (h j : Nat) (c : Nat → Nat → Int) : Prop := ∀ h' i, (h' < h ∧ i < k ∨ h' = h ∧ i < j) → c i (nwo k (low k h' (g h') i).toNat (i + 1)).toNat = crs k h' (g h') i
theorem Wd.step {k : Nat} {g : Nat → Nat} {h j : Nat} {c : Nat → Nat → Int} (hk : k < 5) (hg : Gd k g) (ap : Ap k g) (hh : h < 2 ^ k) (hj : j < k) (w : Wd k g h j c) : Wd k g h (j + 1) (wr c j (nwo k (low k h (g h) j).toNat (j + 1)).toNat (crs k h (g h) j)) := by
  intro h' i hi
  unfold wr
  split
  · rename_i e
    obtain ⟨rfl, e⟩ := e
    by_cases d : h' = h
    · rw [d]
    · have hh' : h' < 2 ^ k := by omega
      have l1 := low_nat hk hh (hg h hh) (show i ≤ k by omega)
      have l2 := low_nat hk hh' (hg h' hh') (show i ≤ k by omega)
      have n1 := nwo_in k hk _ l1.2 i hj
      have n2 := nwo_in k hk _ l2.2 i hj
      exact crs_same hk hh (hg h hh) hh' (hg h' hh') hj (fun z => d (ap i (by omega) h' h hh' hh z.symm)) (fun z => d (ap (i + 1) (by omega) h' h hh' hh z.symm)) (by omega)
  · rename_i e
    refine w h' i ?_
    rcases hi with a | ⟨rfl, b⟩
    · exact .inl a
    · refine .inr ⟨rfl, ?_⟩
      have : i ≠ j := fun z => e (by subst z; exact ⟨rfl, rfl⟩)
      omega
theorem Wd.next {k : Nat} {g : Nat → Nat} {h : Nat} {c : Nat → Nat → Int} (w : Wd k g h k c) : Wd k g (h + 1) 0 c := fun h' i hi => w h' i (by omega)
theorem Wd.zero {k : Nat} {g : Nat → Nat} {c : Nat → Nat → Int} : Wd k g 0 0 c := fun h' i hi => by omega
theorem Wd.fin {k : Nat} {g : Nat → Nat} {c : Nat → Nat → Int} (hk : k < 5) (hg : Gd k g) (w : Wd k g (2 ^ k) 0 c) : ∀ h, h < 2 ^ k → la k c h k = g h := fun h hh => la_led hk hh (hg h hh) fun j hj => w h j (.inl ⟨hh, hj⟩)
/-! ### asks on their way in a round -/
inductive Cr where
  | one (n : Nat) (x : Ak)
  | two (a b : Cr)
def Cr.hand : Cr → Nat
  | .one _ x => x.hand.toNat
  | .two a _ => a.hand
def Cr.box : Cr → Nat
  | .one _ x => x.box
  | .two a _ => a.box
def Cr.d : Cr → Dd
  | .one _ x => x.d
  | .two a b => beh a.d b.d
def Cr.fs (c : Cr) (da T : Addr) : List (Str × V) := [("hand", .int (c.hand : Nat)), ("box", .int (c.box : Nat)), ("deed", .ref da), ("parts", .ref T)]
def CrAt (C : Addr) (H : Hp) : Addr → Cr → Prop
  | p, .one n x => ∃ dx da T, H p = some (.ins C dx ((Cr.one n x).fs da T)) ∧ H da = some (.tup x.d.vs) ∧ H T = some (.tup [.int (n : Nat)])
  | p, .two a b => ∃ dx da T pa pb, H p = some (.ins C dx ((Cr.two a b).fs da T)) ∧ H da = some (.tup (beh a.d b.d).vs) ∧ H T = some (.tup [.ref pa, .ref pb]) ∧ CrAt C H pa a ∧ CrAt C H pb b
theorem CrAt.keep {C : Addr} {H H' : Hp} (k : ∀ a o, H a = some o → (∀ xs, o ≠ .lst xs) → (∀ xs, o ≠ .dT xs) → H' a = some o) : ∀ {c : Cr} {p : Addr}, CrAt C H p c → CrAt C H' p c
  | .one _ _, _, ⟨dx, da, T, h1, h2, h3⟩ => ⟨dx, da, T, k _ _ h1 (fun _ z => by cases z) (fun _ z => by cases z), k _ _ h2 (fun _ z => by cases z) (fun _ z => by cases z), k _ _ h3 (fun _ z => by cases z) (fun _ z => by cases z)⟩
  | .two _ _, _, ⟨dx, da, T, pa, pb, h1, h2, h3, h4, h5⟩ => ⟨dx, da, T, pa, pb, k _ _ h1 (fun _ z => by cases z) (fun _ z => by cases z), k _ _ h2 (fun _ z => by cases z) (fun _ z => by cases z), k _ _ h3 (fun _ z => by cases z) (fun _ z => by cases z), h4.keep k, h5.keep k⟩
theorem CrAt.same {C : Addr} {H H' : Hp} {c : Cr} {p : Addr} (h : CrAt C H p c) (e : Same H H') : CrAt C H' p c := h.keep fun a o x _ _ => e a o x
theorem CrAt.but {C D : Addr} {H H' : Hp} {c : Cr} {p : Addr} {ys : List V} (h : CrAt C H p c) (hD : H D = some (.lst ys)) (e : But D H H') : CrAt C H' p c := h.keep fun a o x n _ => e a o (ne_of x hD (n _)) x
theorem CrAt.butT {C D : Addr} {H H' : Hp} {c : Cr} {p : Addr} {ys : List (List Key × V)} (h : CrAt C H p c) (hD : H D = some (.dT ys)) (e : But D H H') : CrAt C H' p c := h.keep fun a o x _ n => e a o (ne_of x hD (n _)) x
theorem CrAt.top {C : Addr} {H : Hp} : ∀ {c : Cr} {p : Addr}, CrAt C H p c → ∃ dx da T, H p = some (.ins C dx (c.fs da T)) ∧ H da = some (.tup c.d.vs)
  | .one _ _, _, ⟨dx, da, T, h1, h2, _⟩ => ⟨dx, da, T, h1, h2⟩
  | .two _ _, _, ⟨dx, da, T, _, _, h1, h2, _⟩ => ⟨dx, da, T, h1, h2⟩
/-- a row of them -/
def CrsAt (C : Addr) (H : Hp) (L : List (Addr × Cr)) : Prop := ∀ x ∈ L, CrAt C H x.1 x.2
theorem CrsAt.same {C : Addr} {H H' : Hp} {L : List (Addr × Cr)} (h : CrsAt C H L) (e : Same H H') : CrsAt C H' L := fun x hx => (h x hx).same e
/-! the row behind a stage -/
def goal (k : Nat) (c : Cr) : Nat := c.box % 2 ^ k
def lnC (k lv : Nat) (c : Cr) : Int := low k c.hand (goal k c) lv
def ky (k st : Nat) (c : Cr) : List Key := [.inl (lnC k st c), .inl (c.box : Nat)]
def kyV (k st : Nat) (c : Cr) : List V := [.int (lnC k st c), .int (c.box : Nat)]
theorem ky_kV {k st : Nat} {c : Cr} : (ky k st c).map kV = kyV k st c := rfl
theorem ky_eq {k st : Nat} {c e : Cr} : ky k st c = ky k st e ↔ lnC k st c = lnC k st e ∧ c.box = e.box := by
  constructor
  · intro h
    have h1 := List.cons.inj h
    have h2 := List.cons.inj h1.2
    exact ⟨Sum.inl.inj h1.1, Int.ofNat.inj (Sum.inl.inj h2.1)⟩
  · rintro ⟨h1, h2⟩
    unfold ky
    rw [h1, h2]
abbrev Mm := Nat × Int × Nat × Dd
/-- one ask comes to the row: (the row, what is remembered) -/
def put1 (k st : Nat) (s : List Cr × List Mm) (c : Cr) : List Cr × List Mm :=
  match s.1.find? (fun e => decide (ky k st e = ky k st c)) with
  | some e => (s.1.map fun e => if ky k st e = ky k st c then .two e c else e, s.2 ++ [(st, nwo k (lnC k st c).toNat st, c.box, e.d)])
  | none => (s.1 ++ [c], s.2)
def cf (k st : Nat) (s : Nat → Nat → Int) (h g : Nat) : Bool := decide (fg k h st = s (st - 1) (nwo k (low k h g st).toNat st).toNat)
def turn (k st : Nat) (s : Nat → Nat → Int) (row : List Cr) : List Cr := (row.filter fun c => cf k st s c.hand (goal k c)) ++ row.filter fun c => !cf k st s c.hand (goal k c)
def bhd (k st : Nat) (s : Nat → Nat → Int) (row : List Cr) : List Cr × List Mm := (turn k st s row).foldl (put1 k st) ([], [])
def crs0 (as : List Ak) : List Cr := as.zipIdx.map fun x => .one x.2 x.1
def lvl (k : Nat) (s : Nat → Nat → Int) (as : List Ak) : Nat → List Cr
  | 0 => crs0 as
  | j + 1 => (bhd k (j + 1) s (lvl k s as j)).1
def mem (k : Nat) (s : Nat → Nat → Int) (as : List Ak) : Nat → List Mm
  | 0 => []
  | j + 1 => mem k s as j ++ (bhd k (j + 1) s (lvl k s as j)).2
/-- who is on the way: hand and box within bounds -/
def Cr.In (k nb : Nat) : Cr → Prop
  | .one _ x => x.hand.toNat < 2 ^ k ∧ x.box < nb
  | .two a b => a.In k nb ∧ b.In k nb
theorem Cr.In.hd {k nb : Nat} : ∀ {c : Cr}, c.In k nb → c.hand < 2 ^ k ∧ c.box < nb
  | .one _ _, h => h
  | .two _ _, h => h.1.hd
theorem goal_lt {k : Nat} {c : Cr} : goal k c < 2 ^ k := Nat.mod_lt _ (Nat.two_pow_pos k)
theorem put1_in {k st nb : Nat} {s : List Cr × List Mm} {c : Cr} (h : ∀ x ∈ s.1, x.In k nb) (hc : c.In k nb) : ∀ x ∈ (put1 k st s c).1, x.In k nb := by
  unfold put1
  split
  · intro x hx
    obtain ⟨e, he, rfl⟩ := List.mem_map.mp hx
    split
    · exact ⟨h e he, hc⟩
    · exact h e he
  · intro x hx
    rcases List.mem_append.mp hx with z | z
    · exact h x z
    · cases List.mem_singleton.mp z
      exact hc
theorem turn_mem {k st : Nat} {s : Nat → Nat → Int} {row : List Cr} {c : Cr} : c ∈ turn k st s row ↔ c ∈ row := by
  unfold turn
  rw [List.mem_append, List.mem_filter, List.mem_filter]
  cases cf k st s c.hand (goal k c) <;> simp
theorem filt2 {α : Type} (p : α → Bool) : ∀ l : List α, (l.filter p).length + (l.filter fun c => !p c).length = l.length
  | [] => rfl
  | a :: l => by
    have ih := filt2 p l
    rw [List.filter_cons, List.filter_cons]
    cases p a with
    | true => show (a :: l.filter p).length + (l.filter fun c => !p c).length = (a :: l).length; rw [List.length_cons, List.length_cons]; omega
    | false => show (l.filter p).length + (a :: l.filter fun c => !p c).length = (a :: l).length; rw [List.length_cons, List.length_cons]; omega
theorem turn_len {k st : Nat} {s : Nat → Nat → Int} {row : List Cr} : (turn k st s row).length = row.length := by
  unfold turn
  rw [List.length_append]
  exact filt2 (fun c => cf k st s c.hand (goal k c)) row
theorem put1_len {k st : Nat} {s : List Cr × List Mm} {c : Cr} : (put1 k st s c).1.length ≤ s.1.length + 1 ∧ (put1 k st s c).2.length ≤ s.2.length + 1 := by
  unfold put1
  split
  · rw [List.length_map, List.length_append]
    exact ⟨Nat.le_succ _, Nat.le_refl _⟩
  · rw [List.length_append]
    exact ⟨Nat.le_refl _, Nat.le_succ _⟩
/-- the keys of a row are unlike -/
def Uk (k st : Nat) (L : List Cr) : Prop := (L.map (ky k st)).Nodup
theorem put1_ky {k st : Nat} {s : List Cr × List Mm} {c : Cr} : (ky k st c ∈ s.1.map (ky k st) ∧ (put1 k st s c).1.map (ky k st) = s.1.map (ky k st)) ∨ (ky k st c ∉ s.1.map (ky k st) ∧ (put1 k st s c).1.map (ky k st) = s.1.map (ky k st) ++ [ky k st c]) := by
  unfold put1
  split
  · rename_i e he
    have h1 := List.mem_of_find?_eq_some he
    have h2 : ky k st e = ky k st c := by have := List.find?_some he; simpa using this
    refine .inl ⟨List.mem_map.mpr ⟨e, h1, h2⟩, ?_⟩
    rw [List.map_map]
    refine List.map_congr_left fun x _ => ?_
    show ky k st (if ky k st x = ky k st c then .two x c else x) = ky k st x
    split
    · rfl
    · rfl
  · rename_i hn
    refine .inr ⟨fun z => ?_, by rw [List.map_append] <;> rfl⟩
    obtain ⟨e, he, h2⟩ := List.mem_map.mp z
    have := List.find?_eq_none.mp hn e he
    simp [h2] at this
theorem put1_uk {k st : Nat} {s : List Cr × List Mm} {c : Cr} (h : Uk k st s.1) : Uk k st (put1 k st s c).1 := by
  unfold Uk
  rcases put1_ky (k := k) (st := st) (s := s) (c := c) with ⟨_, e⟩ | ⟨n, e⟩
  · rw [e]; exact h
  · rw [e, List.nodup_append]
    refine ⟨h, by simp, fun a ha b hb z => n ?_⟩
    rw [← List.mem_singleton.mp hb, ← z]
    exact ha
theorem put1_mem_ky {k st : Nat} {s : List Cr × List Mm} {c : Cr} {y : List Key} : y ∈ (put1 k st s c).1.map (ky k st) ↔ y ∈ s.1.map (ky k st) ∨ y = ky k st c := by
  rcases put1_ky (k := k) (st := st) (s := s) (c := c) with ⟨m, e⟩ | ⟨_, e⟩
  · rw [e]
    constructor
    · exact .inl
    · rintro (z | z)
      · exact z
      · rw [z]; exact m
  · rw [e, List.mem_append, List.mem_singleton]
theorem fold_uk {k st : Nat} : ∀ (row : List Cr) (s : List Cr × List Mm), Uk k st s.1 → Uk k st (row.foldl (put1 k st) s).1 ∧ ∀ y, y ∈ (row.foldl (put1 k st) s).1.map (ky k st) ↔ y ∈ s.1.map (ky k st) ∨ y ∈ row.map (ky k st)
  | [], s, h => ⟨h, fun y => by simp⟩
  | c :: r, s, h => by
    obtain ⟨h1, h2⟩ := fold_uk r (put1 k st s c) (put1_uk h)
    refine ⟨h1, fun y => ?_⟩
    rw [List.foldl_cons, h2, put1_mem_ky, List.map_cons, List.mem_cons, or_assoc]
theorem fold_in {k st nb : Nat} : ∀ (row : List Cr) (s : List Cr × List Mm), (∀ x ∈ s.1, x.In k nb) → (∀ x ∈ row, x.In k nb) → ∀ x ∈ (row.foldl (put1 k st) s).1, x.In k nb
  | [], _, h, _ => h
  | c :: r, s, h, hr => fold_in r (put1 k st s c) (put1_in h (hr c List.mem_cons_self)) fun x hx => hr x (List.mem_cons_of_mem _ hx)
theorem fold_len {k st : Nat} : ∀ (row : List Cr) (s : List Cr × List Mm), (row.foldl (put1 k st) s).1.length ≤ s.1.length + row.length ∧ (row.foldl (put1 k st) s).2.length ≤ s.2.length + row.length
  | [], _ => ⟨Nat.le_refl _, Nat.le_refl _⟩
  | c :: r, s => by
    obtain ⟨h1, h2⟩ := fold_len (k := k) (st := st) r (put1 k st s c)
    obtain ⟨h3, h4⟩ := put1_len (k := k) (st := st) (s := s) (c := c)
    have e : (c :: r).length = r.length + 1 := rfl
    exact ⟨by rw [List.foldl_cons]; omega, by rw [List.foldl_cons]; omega⟩
theorem bhd_in {k st nb : Nat} {s : Nat → Nat → Int} {row : List Cr} (h : ∀ x ∈ row, x.In k nb) : ∀ x ∈ (bhd k st s row).1, x.In k nb := fold_in _ _ (fun x hx => absurd hx List.not_mem_nil) fun x hx => h x (turn_mem.mp hx)
theorem bhd_uk {k st : Nat} {s : Nat → Nat → Int} {row : List Cr} : Uk k st (bhd k st s row).1 ∧ ∀ y, y ∈ (bhd k st s row).1.map (ky k st) ↔ y ∈ row.map (ky k st) := by
  obtain ⟨h1, h2⟩ := fold_uk (k := k) (st := st) (turn k st s row) ([], []) (by unfold Uk; simp)
  refine ⟨h1, fun y => (h2 y).trans ?_⟩
  constructor
  · rintro (z | z)
    · simp at z
    · obtain ⟨c, hc, e⟩ := List.mem_map.mp z
      exact List.mem_map.mpr ⟨c, turn_mem.mp hc, e⟩
  · intro z
    obtain ⟨c, hc, e⟩ := List.mem_map.mp z
    exact .inr (List.mem_map.mpr ⟨c, turn_mem.mpr hc, e⟩)
theorem bhd_len {k st : Nat} {s : Nat → Nat → Int} {row : List Cr} : (bhd k st s row).1.length ≤ row.length ∧ (bhd k st s row).2.length ≤ row.length := by
  have := fold_len (k := k) (st := st) (turn k st s row) ([], [])
  rw [turn_len] at this
  have h1 := this.1
  have h2 := this.2
  rw [show (([], []) : List Cr × List Mm).1.length = 0 from rfl] at h1
  rw [show (([], []) : List Cr × List Mm).2.length = 0 from rfl] at h2
  exact ⟨by unfold bhd; omega, by unfold bhd; omega⟩
theorem lvl_in {k nb : Nat} {s : Nat → Nat → Int} {as : List Ak} (h : ∀ x ∈ as, x.hand.toNat < 2 ^ k ∧ x.box < nb) : ∀ j, ∀ c ∈ lvl k s as j, c.In k nb
  | 0 => fun c hc => by
    obtain ⟨⟨x, n⟩, hx, rfl⟩ := List.mem_map.mp hc
    exact h x (List.fst_mem_of_mem_zipIdx hx)
  | j + 1 => bhd_in (lvl_in h j)
theorem lvl_len {k : Nat} {s : Nat → Nat → Int} {as : List Ak} : ∀ j, (lvl k s as j).length ≤ as.length
  | 0 => by show (crs0 as).length ≤ _; unfold crs0; rw [List.length_map, List.length_zipIdx]; exact Nat.le_refl _
  | j + 1 => Nat.le_trans bhd_len.1 (lvl_len j)
theorem mem_len {k : Nat} {s : Nat → Nat → Int} {as : List Ak} : ∀ j, (mem k s as j).length ≤ j * as.length
  | 0 => Nat.zero_le _
  | j + 1 => by
    have h1 := mem_len (k := k) (s := s) (as := as) j
    have h2 := (bhd_len (k := k) (st := j + 1) (s := s) (row := lvl k s as j)).2
    have h3 := lvl_len (k := k) (s := s) (as := as) j
    show (mem k s as j ++ (bhd k (j + 1) s (lvl k s as j)).2).length ≤ _
    rw [List.length_append, Nat.succ_mul]
    omega
/-! what is remembered -/
def MmAt (H : Hp) (t : Addr) (m : Mm) : Prop := ∃ da, H t = some (.tup [.int (m.1 : Nat), .int m.2.1, .int (m.2.2.1 : Nat), .ref da]) ∧ H da = some (.tup m.2.2.2.vs)
def MmsAt (H : Hp) (M : Addr) (ms : List Mm) : Prop := ∃ ts : List (Addr × Mm), H M = some (.lst (ts.map fun x => V.ref x.1)) ∧ ts.map (fun x => x.2) = ms ∧ ∀ x ∈ ts, MmAt H x.1 x.2
theorem MmAt.tk {H H' : Hp} {t : Addr} {m : Mm} (h : MmAt H t m) (e : ∀ a xs, H a = some (.tup xs) → H' a = some (.tup xs)) : MmAt H' t m := by
  obtain ⟨da, h1, h2⟩ := h
  exact ⟨da, e _ _ h1, e _ _ h2⟩
theorem MmsAt.same {H H' : Hp} {M : Addr} {ms : List Mm} (h : MmsAt H M ms) (e : Same H H') : MmsAt H' M ms := by
  obtain ⟨ts, h1, h2, h3⟩ := h
  exact ⟨ts, e _ _ h1, h2, fun x hx => (h3 x hx).tk fun a xs z => e _ _ z⟩
/-! the dict of a stage -/
def kvs (k st : Nat) (rows : List (Addr × Cr)) : List (List Key × V) := rows.map fun x => (ky k st x.2, V.ref x.1)
theorem kvs_val {k st : Nat} {y : List Key} : ∀ rows : List (Addr × Cr), valV (kvs k st rows) y = (rows.find? fun x => decide (ky k st x.2 = y)).map fun x => V.ref x.1
  | [] => rfl
  | x :: r => by
    have e : kvs k st (x :: r) = (ky k st x.2, V.ref x.1) :: kvs k st r := rfl
    rw [e, List.find?_cons]
    by_cases c : ky k st x.2 = y
    · rw [valV_pos (p := (ky k st x.2, V.ref x.1)) c, decide_eq_true c] <;> rfl
    · rw [valV_neg (p := (ky k st x.2, V.ref x.1)) c, decide_eq_false c]
      exact kvs_val r
theorem nd_uniq {α β : Type} {f : α → β} : ∀ {l : List α} {x y : α}, (l.map f).Nodup → x ∈ l → y ∈ l → f x = f y → x = y
  | a :: l, x, y, nd, hx, hy, e => by
    rw [List.map_cons, List.nodup_cons] at nd
    rcases List.mem_cons.mp hx with h1 | h1
    · rcases List.mem_cons.mp hy with h2 | h2
      · rw [h1, h2]
      · exact absurd (List.mem_map.mpr ⟨y, h2, by rw [← e, h1]⟩) nd.1
    · rcases List.mem_cons.mp hy with h2 | h2
      · exact absurd (List.mem_map.mpr ⟨x, h1, by rw [e, h2]⟩) nd.1
      · exact nd_uniq nd.2 h1 h2 e
/-- the rows behind a joining -/
def jrows (k st : Nat) (rows : List (Addr × Cr)) (a : Addr) (c : Cr) : List (Addr × Cr) := rows.map fun x => if ky k st x.2 = ky k st c then (a, .two x.2 c) else x
theorem kvs_put {k st : Nat} {rows : List (Addr × Cr)} {a : Addr} {c : Cr} {x0 : Addr × Cr} (h : (rows.find? fun x => decide (ky k st x.2 = ky k st c)) = some x0) : putK (kvs k st rows) (ky k st c) (.ref a) = kvs k st (jrows k st rows a c) := by
  unfold putK
  have hv : valV (kvs k st rows) (ky k st c) = some (V.ref x0.1) := by rw [kvs_val, h] <;> rfl
  rw [valV_any, hv]
  refine (if_pos rfl).trans ?_
  unfold kvs jrows
  rw [List.map_map, List.map_map]
  refine List.map_congr_left fun x _ => ?_
  show (if ky k st x.2 = ky k st c then (ky k st x.2, V.ref a) else (ky k st x.2, V.ref x.1)) = (ky k st (if ky k st x.2 = ky k st c then (a, Cr.two x.2 c) else x).2, V.ref (if ky k st x.2 = ky k st c then (a, Cr.two x.2 c) else x).1)
  split
  · rfl
  · rfl
theorem kvs_vals {k st : Nat} {rows : List (Addr × Cr)} : (kvs k st rows).map (fun kv => kv.2) = rows.map fun x => V.ref x.1 := by
  unfold kvs
  rw [List.map_map] <;> rfl
theorem find_snd {k st : Nat} {y : List Key} : ∀ rows : List (Addr × Cr), ((rows.map fun x => x.2).find? fun e => decide (ky k st e = y)) = (rows.find? fun x => decide (ky k st x.2 = y)).map fun x => x.2
  | [] => rfl
  | x :: r => by
    rw [List.map_cons, List.find?_cons, List.find?_cons]
    cases decide (ky k st x.2 = y) with
    | true => rfl
    | false => exact find_snd r
theorem jrows_snd {k st : Nat} {rows : List (Addr × Cr)} {a : Addr} {c : Cr} {x0 : Addr × Cr} {ms : List Mm} (h : (rows.find? fun x => decide (ky k st x.2 = ky k st c)) = some x0) : put1 k st (rows.map (fun x => x.2), ms) c = ((jrows k st rows a c).map (fun x => x.2), ms ++ [(st, nwo k (lnC k st c).toNat st, c.box, x0.2.d)]) := by
  unfold put1
  have e : ((rows.map fun x => x.2).find? fun e => decide (ky k st e = ky k st c)) = some x0.2 := by rw [find_snd, h] <;> rfl
  rw [e]
  have e2 : (rows.map fun x => x.2).map (fun e => if ky k st e = ky k st c then Cr.two e c else e) = (jrows k st rows a c).map (fun x => x.2) := by
    unfold jrows
    rw [List.map_map, List.map_map]
    refine List.map_congr_left fun x _ => ?_
    show (if ky k st x.2 = ky k st c then Cr.two x.2 c else x.2) = (if ky k st x.2 = ky k st c then (a, Cr.two x.2 c) else x).2
    split <;> rfl
  show (_, _) = _
  rw [e2]
theorem put1_new {k st : Nat} {rows : List (Addr × Cr)} {c : Cr} {ms : List Mm} (h : (rows.find? fun x => decide (ky k st x.2 = ky k st c)) = none) (a : Addr) : put1 k st (rows.map (fun x => x.2), ms) c = ((rows ++ [(a, c)]).map (fun x => x.2), ms) := by
  unfold put1
  have e : ((rows.map fun x => x.2).find? fun e => decide (ky k st e = ky k st c)) = none := by rw [find_snd, h] <;> rfl
  rw [e]
  show (_, _) = _
  rw [List.map_append] <;> rfl
theorem jrows_at {C : Addr} {H : Hp} {k st : Nat} {rows : List (Addr × Cr)} {a : Addr} {c : Cr} {x0 : Addr × Cr} (h : CrsAt C H rows) (nd : Uk k st (rows.map fun x => x.2)) (hf : (rows.find? fun x => decide (ky k st x.2 = ky k st c)) = some x0) (ha : CrAt C H a (.two x0.2 c)) : CrsAt C H (jrows k st rows a c) := by
  intro y hy
  obtain ⟨x, hx, rfl⟩ := List.mem_map.mp hy
  by_cases e : ky k st x.2 = ky k st c
  · rw [if_pos e]
    have h0 := List.mem_of_find?_eq_some hf
    have e0 : ky k st x0.2 = ky k st c := by have := List.find?_some hf; simpa using this
    unfold Uk at nd
    rw [List.map_map] at nd
    have := nd_uniq (f := ky k st ∘ fun x : Addr × Cr => x.2) nd hx h0 (show ky k st x.2 = ky k st x0.2 by rw [e, e0])
    subst this
    exact ha
  · rw [if_neg e]
    exact h x hx
section
variable {P : Program} {w : World} {K : PySem.W.Frag} {mg : Str → Option Value} {base : Heap} (B : Bl K mg)
include B
/-! SPLIT -/
local macro_rules | `(tactic| walk_at "own") => `(tactic| fail)
local macro_rules | `(tactic| walk_at "sm") => `(tactic| first
  | with_reducible assumption
  | exact fun _ _ z => z
  | (apply Toy.same_bk; (with_reducible assumption); walk_at "sm")
  | solve_by_elim only [Toy.same_bk, *])
local macro_rules | `(tactic| walk_at "hp") => `(tactic| ((with_reducible refine (?_ : _ = some _)); first
  | with_reducible assumption
  | exact L2.upd_same
  | (apply Toy.hp_new; assumption; walk_at "hp")
  | (apply Toy.hp_at; (with_reducible assumption); walk_at "sm")))
local macro_rules | `(tactic| walk_at "sql") => `(tactic| first
  | with_reducible assumption
  | (apply L2.SqL.of; walk_at "hp")
  | (apply Toy.sql_at; (with_reducible assumption); walk_at "sm"))
local macro_rules | `(tactic| walk_at "sqt") => `(tactic| first
  | with_reducible assumption
  | (apply L2.SqT.of; walk_at "hp")
  | (apply Toy.sqt_at; (with_reducible assumption); walk_at "sm"))
local macro_rules | `(tactic| walk_at "ar") => `(tactic| first
  | with_reducible refine (?_ : (_ : Int) < _)
  | with_reducible refine (?_ : (_ : Int) ≤ _)
  | with_reducible refine (?_ : (_ : Nat) < _)
  | with_reducible refine (?_ : (_ : Nat) ≤ _)
  | with_reducible refine (?_ : (_ : Int) = _)
  | with_reducible refine (?_ : (_ : Nat) = _)
  | with_reducible refine (?_ : ¬ _)
  | with_reducible refine (?_ : _ ∧ _))
local macro_rules | `(tactic| walk_at "om") => `(tactic| (walk_at "ar"; omega))
local macro_rules | `(tactic| walk_at "num") => `(tactic| first
  | (walk_at "ar"; first
    | omega
    | (simp only [List.length_map, List.length_append, List.length_cons, List.length_nil, List.length_replicate, List.length_take, List.length_drop, List.length_range, List.length_set, List.length_reverse] <;> omega)
    | decide
    | (split <;> split <;> omega)
    | (split <;> omega))
  | decide)
local macro_rules | `(tactic| walk_at "side") => `(tactic| first
  | with_reducible rfl
  | walk_at "om"
  | with_reducible assumption
  | exact Toy.sz
  | (apply L2.SqL.of; walk_at "hp")
  | (apply L2.SqT.of; walk_at "hp")
  | (with_reducible apply Or.inl; walk_at "sql")
  | (with_reducible apply Or.inr; walk_at "sqt")
  | (with_reducible apply Exists.intro; walk_at "side")
  | walk_at "hp"
  | exact Eq.refl _
  | (apply Toy.lk1000; walk_at "num")
  | (apply Toy.lt1000; walk_at "num")
  | walk_at "num"
  | (apply Toy.lst_dp; apply L2.SqL.of; walk_at "hp")
  | (apply Toy.tupI_dp; apply L2.SqT.of; walk_at "hp")
  | exact Toy.ints_sh _
  | exact Toy.tupI_sh _
  | (apply L2.RgOk.of_le <;> walk_at "num")
  | (apply L2.atI_nat; assumption)
  | exact L2.Dp.lst (L2.SqL.of (by walk_at "hp")) L2.DpAll.nil
  | exact L2.Dp.tup (L2.SqT.of (by walk_at "hp")) L2.DpAll.nil
  | (apply Toy.ixn; walk_at "num")
  | exact Toy.tyL (by walk_at "hp")
  | walk_at "sql"
  | walk_at "sqt"
  | exact L2.ClsV.ty _
  | (apply L2.TyX.base; first | exact L2.TyOf.int _ | exact L2.TyOf.bl _ | exact L2.TyOf.non | exact L2.TyOf.str _ | (apply L2.TyOf.tup; walk_at "hp") | (apply L2.TyOf.lst; walk_at "hp"))
  | exact L2.kit_ty (r := true) (by decide +kernel)
  | exact L2.kit_ty (r := false) (by decide +kernel)
  | walk_at "own"
  | assumption
  | (walk_at "ar"; solve_by_elim only [Toy.hp_same, Toy.hp_new, L2.upd_same, *]))
local macro_rules | `(tactic| walk_at "go") => `(tactic| first
  | (apply And.intro; (focus (walk_at "side")); try walk_at "go")
  | (apply Exists.intro; rotate_left; (fail_if_success (with_reducible refine (?_ : Nat → _ → _))); (fail_if_success (with_reducible refine (?_ : L2.St → _ → _))); rotate_right; try walk_at "go")
  | (apply Or.inl; apply And.intro; (focus (walk_at "sql")); try walk_at "go")
  | (apply Or.inr; apply And.intro; (focus (walk_at "sqt")); try walk_at "go"))
/-! ENDM -/
/-! ### the program -/
def spIsWhole : Sp := fun vs H Q _ => ∃ i, vs = [.int i] ∧ Q (.bl true) H
theorem k_is_whole (D : Df K mg "is_whole" s_is_whole ["thing"]) : Dn P w K mg base 1 "is_whole" ["thing"] spIsWhole := by
  refine D.ok fun f fd F => okG0 F sc_is_whole (fun vs H Q E h => ?_) (fun cdv A outer s H vs Q E hr h => ⟨_, (pss_one (ps_ret (pe_and (pe_callB (kk (K := K) (F := rIsi) (P := CallR _ _) call_isi) (by rfl) B.isinstance_ (by decide +kernel) (pa_cons (pv 0) (pa_cons (pe_bltn (v := .ty "int") (u := .type "int") (by rfl) B.int_ (by decide +kernel) rfl) pa_nil))) (pe_one (pe_not (pe_callB (kk (K := K) (F := rIsi) (P := CallR _ _) call_isi) (by rfl) B.isinstance_ (by decide +kernel) (pa_cons (pv 0) (pa_cons (pe_bltn (v := .ty "bool") (u := .type "bool") (by rfl) B.bool_ (by decide +kernel) rfl) pa_nil)))))))), ?_⟩)
  · obtain ⟨i, rfl, _⟩ := h; rfl
  · obtain ⟨i, rfl, q⟩ := h
    refine ⟨_, rfl, _, _, _, _, _, rfl, .ty _, .base (.int _), kit_ty (b := "int") (r := true) (by decide +kernel), _, rfl, iteT ?_⟩
    refine ⟨_, rfl, _, _, _, _, _, rfl, .ty _, .base (.int _), kit_ty (b := "bool") (r := false) (by decide +kernel), _, rfl, ?_⟩
    exact q
def spIsRow (K : PySem.W.Frag) : Sp := fun vs H Q _ => ∃ (a : Addr) (xs : List V) (n : Int), vs = [.ref a, .int n] ∧ TyX K H (.ref a) (.type "tuple") ∧ SqT K H a xs ∧ Q (.bl (decide (V.int (xs.length : Int) = V.int n))) H
theorem k_is_row_of (D : Df K mg "is_row_of" s_is_row_of ["thing", "many"]) : Dn P w K mg base 1 "is_row_of" ["thing", "many"] (spIsRow K) := by
  refine D.ok fun f fd F => okG0 F sc_is_row_of (fun vs H Q E h => ?_) (fun cdv A outer s H vs Q E hr h => ⟨_, (pss_one (ps_ret (pe_and (pe_callB (kk (K := K) (F := rIsi) (P := CallR _ _) call_isi) (by rfl) B.isinstance_ (by decide +kernel) (pa_cons (pv 0) (pa_cons (pe_bltn (v := .ty "tuple") (u := .type "tuple") (by rfl) B.tuple_ (by decide +kernel) rfl) pa_nil))) (pe_one (pe_cmpR op_eq (pe_callB (lenK (K := K)) (by rfl) B.len_ (by decide +kernel) (pa_cons (pv 0) pa_nil)) (pv 1) (nomark _)))))), ?_⟩)
  · obtain ⟨a, xs, i, rfl, _⟩ := h; rfl
  · obtain ⟨a, xs, i, rfl, ht, hx, q⟩ := h
    refine ⟨_, rfl, _, _, _, _, _, rfl, .ty _, ht, kit_ty (b := "tuple") (r := true) (by decide +kernel), _, rfl, iteT ?_⟩
    exact ⟨_, rfl, a, xs, rfl, .inr hx, _, rfl, rfl, q⟩
def spIsEnd : Sp := fun vs H Q _ => ∃ o, vs = [oV o] ∧ Q (.bl true) H
theorem k_is_end (D : Df K mg "is_end" s_is_end ["thing"]) (D_is_whole : Dn P w K mg base 1 "is_whole" ["thing"] spIsWhole) : Dn P w K mg base 2 "is_end" ["thing"] spIsEnd := by
  refine D.ok fun f fd F => okG0 F sc_is_end (fun vs H Q E h => ?_) (fun cdv A outer s H vs Q E hr h => ⟨_, (pss_one (ps_ret (pe_or (pe_cmpR op_isN (pv 0) pe_non (nomark _)) (pe_one (pe_cD D_is_whole (hr.less (by decide)) rfl (pa_cons (pv 0) pa_nil)))))), ?_⟩)
  · obtain ⟨i, rfl, _⟩ := h; rfl
  · obtain ⟨o, rfl, q⟩ := h
    cases o with
    | none => exact ⟨_, rfl, rfl, _, rfl, iteT q⟩
    | some i => exact ⟨_, rfl, rfl, _, rfl, iteF ⟨_, rfl, i, rfl, q⟩⟩
def spIsDeed (K : PySem.W.Frag) : Sp := fun vs H Q _ => ∃ a d, vs = [.ref a] ∧ DeedArg K H a d ∧ Q (.bl true) H
theorem k_is_deed (D : Df K mg "is_deed" s_is_deed ["thing"]) (D_is_whole : Dn P w K mg base 1 "is_whole" ["thing"] spIsWhole) (D_is_row_of : Dn P w K mg base 1 "is_row_of" ["thing", "many"] (spIsRow K)) (D_is_end : Dn P w K mg base 2 "is_end" ["thing"] spIsEnd) : Dn P w K mg base 3 "is_deed" ["thing"] (spIsDeed K) := by
  refine D.ok fun f fd F => okG0 F sc_is_deed (fun vs H Q E h => ?_) (fun cdv A outer s H vs Q E hr h => ⟨_, (pss_cons (ps_if (PW.pt (pw_or (pt_not (pt_val (pe_cD D_is_row_of (hr.less (by decide)) rfl (pa_cons (pv 0) (pa_cons pe_int pa_nil))))) (pw_or (pt_not (pt_val (pe_cD D_is_whole (hr.less (by decide)) rfl (pa_cons (pe_ix (kk (K := K) (F := rIxT) (P := IxR _) ix_tup) (pv 0) pe_int (fun _ _ => rfl)) pa_nil)))) (pw_or (pt_not (pt_val (pe_cD D_is_end (hr.less (by decide)) rfl (pa_cons (pe_ix (kk (K := K) (F := rIxT) (P := IxR _) ix_tup) (pv 0) pe_int (fun _ _ => rfl)) pa_nil)))) (pw_or1 (pt_not (pt_val (pe_cD D_is_end (hr.less (by decide)) rfl (pa_cons (pe_ix (kk (K := K) (F := rIxT) (P := IxR _) ix_tup) (pv 0) pe_int (fun _ _ => rfl)) pa_nil)))))))))
      (pss_one (ps_ret pe_bl))
      pss_nil)
    (pss_cons (ps_asg (pv 0) (kk (K := K) (F := fun K => gTup K 3 _) (P := PG _ _) (pg_tup rfl (pgs_cons (pg_name (i := 1) sc_is_deed.nd rfl (Or.inl rfl)) (pgs_cons (pg_name (i := 2) sc_is_deed.nd rfl (Or.inl rfl)) (pgs_cons (pg_name (i := 3) sc_is_deed.nd rfl (Or.inl rfl)) pgs_nil))))))
    (pss_cons (ps_if (PW.pt (pw_or (pt_cmpR op_isN (pv 2) pe_non (nomark _)) (pw_or1 (pt_cmpR op_isN (pv 3) pe_non (nomark _)))))
      (pss_one (ps_ret pe_bl))
      pss_nil)
    (pss_one (ps_ret (pe_or (pe_cmpR op_lt (pv 2) (pv 3) (nomark _)) (pe_one (pe_and (pe_cmpR op_eq (pv 2) (pv 3) (nomark _)) (pe_one (pe_cmpR op_eq (pv 1) pe_int (nomark _))))))))))), ?_⟩)
  · obtain ⟨a, d, rfl, _⟩ := h; rfl
  · obtain ⟨a, d, rfl, ⟨ht, hx, ok⟩, q⟩ := h
    refine ⟨_, rfl, a, _, 3, rfl, ht, hx, _, rfl, iteF ?_⟩
    refine ⟨_, rfl, a, _, _, _, rfl, rfl, hx, at_of (j := 0) rfl rfl, _, rfl, _, rfl, iteF ?_⟩
    refine ⟨_, rfl, a, _, _, _, rfl, rfl, hx, at_of (j := 1) rfl rfl, d.low, rfl, _, rfl, iteF ?_⟩
    refine ⟨_, rfl, a, _, _, _, rfl, rfl, hx, at_of (j := 2) rfl rfl, d.high, rfl, _, rfl, iteF ?_⟩
    refine ⟨_, rfl, a, _, rfl, hx, rfl, _, _, rfl, _, _, rfl, _, _, rfl, rfl, ?_⟩
    obtain ⟨add, low, high⟩ := d
    cases low with
    | none => exact ⟨_, rfl, rfl, _, rfl, iteT (iteT q)⟩
    | some l =>
      refine ⟨_, rfl, rfl, _, rfl, iteF ?_⟩
      cases high with
      | none => exact ⟨_, rfl, rfl, _, rfl, iteT q⟩
      | some h =>
        refine ⟨_, rfl, rfl, _, rfl, iteF ?_⟩
        refine ⟨_, rfl, _, rfl, _, _, rfl, rfl, _, rfl, ite2 (fun c => q) (fun c => ?_)⟩
        have := ok l h rfl rfl
        have c' : ¬ l < h := of_decide_eq_false (Bool.eq_false_iff.mpr c)
        obtain ⟨e1, e2⟩ : l = h ∧ add = 0 := by
          rcases this with h1 | h1
          · exact absurd h1 c'
          · exact h1
        subst e1 e2
        refine ⟨_, rfl, _, rfl, rfl, _, rfl, ?_⟩
        exact ifT (decide_eq_true rfl) ⟨_, rfl, rfl, q⟩
def spPut (K : PySem.W.Frag) : Sp := fun vs H Q _ => ∃ a d v, vs = [.ref a, .int v] ∧ SqT K H a (Dd.vs d) ∧ Q (.int (d.ap v)) H
theorem k_put_through (D : Df K mg "put_through" s_put_through ["deed", "value"]) : Dn P w K mg base 1 "put_through" ["deed", "value"] (spPut K) := by
  refine D.ok fun f fd F => okG0 F sc_put_through (fun vs H Q E h => ?_) (fun cdv A outer s H vs Q E hr h => ⟨_, (pss_cons (ps_asg (pv 0) (kk (K := K) (F := fun K => gTup K 3 _) (P := PG _ _) (pg_tup rfl (pgs_cons (pg_name (i := 2) sc_put_through.nd rfl (Or.inl rfl)) (pgs_cons (pg_name (i := 3) sc_put_through.nd rfl (Or.inl rfl)) (pgs_cons (pg_name (i := 4) sc_put_through.nd rfl (Or.inl rfl)) pgs_nil))))))
    (pss_cons (ps_set (i := 5) sc_put_through.nd rfl (Or.inl rfl) (pe_op op_add (pv 1) (pv 2)))
    (pss_cons (ps_if (pt_cmpR op_notN (pv 3) pe_non (nomark _))
      (pss_one (ps_set (i := 5) sc_put_through.nd rfl (Or.inl rfl) (pe_callB (call_max2 rfl) (by rfl) B.max_ (by decide +kernel) (pa_cons (pv 3) (pa_cons (pv 5) pa_nil)))))
      pss_nil)
    (pss_one (ps_ret (pe_ifExp (pt_cmpR op_isN (pv 4) pe_non (nomark _)) (pv 5) (pe_callB (call_min2 rfl) (by rfl) B.min_ (by decide +kernel) (pa_cons (pv 4) (pa_cons (pv 5) pa_nil))))))))), ?_⟩)
  · obtain ⟨a, d, v, rfl, _⟩ := h; rfl
  · obtain ⟨a, d, v, rfl, hx, q⟩ := h
    refine ⟨_, rfl, a, _, rfl, hx, rfl, _, _, rfl, _, _, rfl, _, _, rfl, rfl, ?_⟩
    refine ⟨_, rfl, _, rfl, _, _, rfl, rfl, ?_⟩
    obtain ⟨add, low, high⟩ := d
    cases low with
    | none =>
      refine ⟨_, rfl, rfl, _, rfl, iteF ?_⟩
      cases high with
      | none => exact ⟨_, rfl, rfl, _, rfl, iteT ⟨_, rfl, q⟩⟩
      | some h => exact ⟨_, rfl, rfl, _, rfl, iteF ⟨_, rfl, _, rfl, _, _, rfl, q⟩⟩
    | some l =>
      refine ⟨_, rfl, rfl, _, rfl, iteT ⟨_, rfl, _, rfl, _, _, rfl, ?_⟩⟩
      cases high with
      | none => exact ⟨_, rfl, rfl, _, rfl, iteT ⟨_, rfl, q⟩⟩
      | some h => exact ⟨_, rfl, rfl, _, rfl, iteF ⟨_, rfl, _, rfl, _, _, rfl, q⟩⟩
def spWholeDeed : Sp := fun vs H Q _ => ∃ (add : Int) (low high : Option Int), vs = [.int add, oV low, oV high] ∧ NewD H Q (wholeD add low high)
theorem k_whole_deed (D : Df K mg "whole_deed" s_whole_deed ["add", "low", "high"]) : Dn P w K mg base 1 "whole_deed" ["add", "low", "high"] spWholeDeed := by
  refine D.ok fun f fd F => okG0 F sc_whole_deed (fun vs H Q E h => ?_) (fun cdv A outer s H vs Q E hr h => ⟨_, (pss_cons (ps_if (PW.pt (pw_and (pt_cmpR op_notN (pv 1) pe_non (nomark _)) (pw_and1 (pt_cmpR op_eq (pv 1) (pv 2) (nomark _)))))
      (pss_one (ps_ret (pe_tup (pa_cons pe_int (pa_cons (pv 1) (pa_cons (pv 2) pa_nil))))))
      pss_nil)
    (pss_one (ps_ret (pe_tup (pa_cons (pv 0) (pa_cons (pv 1) (pa_cons (pv 2) pa_nil))))))), ?_⟩)
  · obtain ⟨add, low, high, rfl, _⟩ := h; rfl
  · obtain ⟨add, low, high, rfl, q⟩ := h
    have key : ∀ d : Dd, wholeD add low high = d → tRet (tTup (tCons (tC (.int d.add)) (tCons (tC (oV d.low)) (tCons (tC (oV d.high)) tNil)))) { nx := fun _ H' => Q .non H', rt := Q } (start ["add", "low", "high"] [.int add, oV low, oV high]) H := by
      rintro d rfl
      exact ⟨sz, fun p hp => q p _ (same_new hp _) hp upd_same⟩
    cases low with
    | none =>
      refine ⟨_, rfl, rfl, _, rfl, iteF (iteF ?_)⟩
      have := key ⟨add, none, high⟩ (if_neg fun z => z.1 rfl)
      exact ⟨_, rfl, _, rfl, _, rfl, this⟩
    | some l =>
      refine ⟨_, rfl, rfl, _, rfl, iteT ⟨_, rfl, _, rfl, ?_⟩⟩
      cases high with
      | none =>
        have := key ⟨add, some l, none⟩ (if_neg fun z => nomatch z.2)
        exact ⟨rfl, _, rfl, iteF ⟨_, rfl, _, rfl, _, rfl, this⟩⟩
      | some h =>
        refine ⟨rfl, _, rfl, ite2 (fun c => ?_) (fun c => ?_)⟩
        · have c' : l = h := by have := of_decide_eq_true c; cases this; rfl
          have := key ⟨0, some l, some h⟩ (if_pos ⟨Option.some_ne_none l, by rw [c']⟩)
          exact ⟨_, rfl, _, rfl, this⟩
        · have c' : ¬ l = h := fun e => c (decide_eq_true (by rw [e]))
          have := key ⟨add, some l, some h⟩ (if_neg fun z => c' (Option.some.inj z.2))
          exact ⟨_, rfl, _, rfl, _, rfl, this⟩
def spBehind (K : PySem.W.Frag) : Sp := fun vs H Q _ => ∃ (a b : Addr) (d e : Dd), vs = [.ref a, .ref b] ∧ SqT K H a d.vs ∧ SqT K H b e.vs ∧ NewD H Q (beh d e)
theorem k_one_behind (D : Df K mg "one_behind" s_one_behind ["one", "other"]) (D_put_through : Dn P w K mg base 1 "put_through" ["deed", "value"] (spPut K)) (D_whole_deed : Dn P w K mg base 1 "whole_deed" ["add", "low", "high"] spWholeDeed) : Dn P w K mg base 2 "one_behind" ["one", "other"] (spBehind K) := by
  refine D.ok fun f fd F => okG0 F sc_one_behind (fun vs H Q E h => ?_) (fun cdv A outer s H vs Q E hr h => ⟨_, (pss_cons (ps_par (i := 2) (j := 3) rfl sc_one_behind.nd rfl rfl (by decide) rfl rfl (pa_cons (pe_ix (kk (K := K) (F := rIxT) (P := IxR _) ix_tup) (pv 1) pe_int (fun _ _ => rfl)) (pa_cons (pe_ix (kk (K := K) (F := rIxT) (P := IxR _) ix_tup) (pv 1) pe_int (fun _ _ => rfl)) pa_nil)) (by rfl))
    (pss_cons (ps_if (pt_cmpR op_notN (pe_ix (kk (K := K) (F := rIxT) (P := IxR _) ix_tup) (pv 0) pe_int (fun _ _ => rfl)) pe_non (nomark _))
      (pss_one (ps_set (i := 2) sc_one_behind.nd rfl (Or.inl rfl) (pe_cD D_put_through (hr.less (by decide)) rfl (pa_cons (pv 1) (pa_cons (pe_ix (kk (K := K) (F := rIxT) (P := IxR _) ix_tup) (pv 0) pe_int (fun _ _ => rfl)) pa_nil)))))
      pss_nil)
    (pss_cons (ps_if (pt_cmpR op_notN (pe_ix (kk (K := K) (F := rIxT) (P := IxR _) ix_tup) (pv 0) pe_int (fun _ _ => rfl)) pe_non (nomark _))
      (pss_one (ps_set (i := 3) sc_one_behind.nd rfl (Or.inl rfl) (pe_cD D_put_through (hr.less (by decide)) rfl (pa_cons (pv 1) (pa_cons (pe_ix (kk (K := K) (F := rIxT) (P := IxR _) ix_tup) (pv 0) pe_int (fun _ _ => rfl)) pa_nil)))))
      pss_nil)
    (pss_one (ps_ret (pe_cD D_whole_deed (hr.less (by decide)) rfl (pa_cons (pe_op op_add (pe_ix (kk (K := K) (F := rIxT) (P := IxR _) ix_tup) (pv 0) pe_int (fun _ _ => rfl)) (pe_ix (kk (K := K) (F := rIxT) (P := IxR _) ix_tup) (pv 1) pe_int (fun _ _ => rfl))) (pa_cons (pv 2) (pa_cons (pv 3) pa_nil))))))))), ?_⟩)
  · obtain ⟨a, b, d, e, rfl, _⟩ := h; rfl
  · obtain ⟨a, b, d, e, rfl, ha, hb, q⟩ := h
    refine ⟨_, rfl, b, _, _, _, rfl, rfl, hb, at_of (j := 1) rfl rfl, _, rfl, b, _, _, _, rfl, rfl, hb, at_of (j := 2) rfl rfl, _, _, rfl, ?_⟩
    refine ⟨_, rfl, a, _, _, _, rfl, rfl, ha, at_of (j := 1) rfl rfl, rfl, _, rfl, ?_⟩
    have fin : ∀ lo hi : Option Int, endBeh e d.low e.low = lo → endBeh e d.high e.high = hi → tRet (tCall spWholeDeed [] E0 (tCons (tOp (rI0 fun i j => V.int (i + j)) (tOp (rIxT K) (tVar 0) (tC (.int 0))) (tOp (rIxT K) (tVar 1) (tC (.int 0)))) (tCons (tVar 2) (tCons (tVar 3) tNil)))) { nx := fun _ H' => Q .non H', rt := Q }
        [some (.ref a), some (.ref b), some (oV lo), some (oV hi)] H := by
      rintro _ _ rfl rfl
      exact ⟨_, rfl, a, _, _, _, rfl, rfl, ha, at_of (j := 0) rfl rfl, _, rfl, b, _, _, _, rfl, rfl, hb, at_of (j := 0) rfl rfl, _, _, rfl, rfl, _, rfl, _, rfl, _, _, _, rfl, q⟩
    have hi : ∀ lo : Option Int, endBeh e d.low e.low = lo → tSeq (tIfS (tTest (tOp (fun x y H Q => y = V.non ∧ Q (V.bl (!decide (x = V.non))) H) (tOp (rIxT K) (tVar 0) (tC (.int 2))) (tC .non))) (tAsg (tCall (spPut K) [] E0 (tCons (tVar 1) (tCons (tOp (rIxT K) (tVar 0) (tC (.int 2))) tNil))) (gName 3)) tNext)
        (tRet (tCall spWholeDeed [] E0 (tCons (tOp (rI0 fun i j => V.int (i + j)) (tOp (rIxT K) (tVar 0) (tC (.int 0))) (tOp (rIxT K) (tVar 1) (tC (.int 0)))) (tCons (tVar 2) (tCons (tVar 3) tNil))))) { nx := fun _ H' => Q .non H', rt := Q }
        [some (.ref a), some (.ref b), some (oV lo), some (oV e.high)] H := by
      intro lo hlo
      refine ⟨_, rfl, a, _, _, _, rfl, rfl, ha, at_of (j := 2) rfl rfl, rfl, _, rfl, ?_⟩
      cases eh : d.high with
      | none => exact iteF (fin lo e.high hlo (by rw [eh] <;> rfl))
      | some k =>
        refine iteT ⟨_, rfl, _, rfl, a, _, _, _, rfl, rfl, ha, at_of (j := 2) rfl rfl, b, e, k, by rw [eh] <;> rfl, hb, ?_⟩
        exact fin lo (some _) hlo (by rw [eh] <;> rfl)
    cases el : d.low with
    | none => exact iteF (hi e.low (by rw [el] <;> rfl))
    | some k =>
      refine iteT ⟨_, rfl, _, rfl, a, _, _, _, rfl, rfl, ha, at_of (j := 1) rfl rfl, b, e, k, by rw [el] <;> rfl, hb, ?_⟩
      exact hi (some _) (by rw [el] <;> rfl)
def spIsBoard (K : PySem.W.Frag) : Sp := fun vs H Q _ => ∃ (b : Addr) (bs : List Int), vs = [.ref b] ∧ BoardAt H b bs ∧ ∀ H', Same H H' → Q (.bl true) H'
theorem k_is_board (D : Df K mg "is_board" s_is_board ["thing"]) (D_is_whole : Dn P w K mg base 1 "is_whole" ["thing"] spIsWhole) : Dn P w K mg base 2 "is_board" ["thing"] (spIsBoard K) := by
  refine D.ok fun f fd F => okG0 F sc_is_board (fun vs H Q E h => ?_) (fun cdv A outer s H vs Q E hr h => ⟨_, (pss_one (ps_ret (pe_and (pe_callB (kk (K := K) (F := rIsi) (P := CallR _ _) call_isi) (by rfl) B.isinstance_ (by decide +kernel) (pa_cons (pv 0) (pa_cons (pe_bltn (v := .ty "tuple") (u := .type "tuple") (by rfl) B.tuple_ (by decide +kernel) rfl) pa_nil))) (pe_and (pe_chain op_le op_le pe_int (pe_callB (lenK (K := K)) (by rfl) B.len_ (by decide +kernel) (pa_cons (pv 0) pa_nil)) (pe_glob (v := .int (16)) (u := .int (16) B.MOST_BOXES_.choose) (by rfl) B.MOST_BOXES_.choose_spec ⟨_, rfl⟩)) (pe_one (pe_callB (kk (K := K) (F := rAll) (P := CallR _ _) (cr_all rfl)) (by rfl) B.all_ (by decide +kernel) (pa_cons (pe_lc (own := [("value", 1)]) (g := gName 1) (tt := tYes) rfl sc_is_board.nd (kk (K := K) (F := fun K => iTup K _) (P := PI _ _ _) (pi_tup (pv 0))) (blkOk_by (own := [("value", 1)]) (N := ["thing", "value"]) (sc := defScope s_is_board) (by decide +kernel)) (fun _ _ _ _ _ => (pg_name (i := 1) sc_is_board.nd rfl (Or.inl rfl))) (fun _ _ _ _ _ => pts_nil) (fun _ _ _ _ _ => (pe_cD D_is_whole (hr.less (by decide)) rfl (pa_cons (pv 1) pa_nil)))) pa_nil))))))), ?_⟩)
  · obtain ⟨b, bs, rfl, _⟩ := h; rfl
  · obtain ⟨b, bs, rfl, hb, q⟩ := h
    have hl := hb.2
    refine ⟨_, rfl, _, _, _, _, _, rfl, .ty _, .base (.tup hb.1), kit_ty (b := "tuple") (r := true) (by decide +kernel), _, rfl, iteT ?_⟩
    refine ⟨_, rfl, b, _, rfl, .inr (SqT.of hb.1), ?_⟩
    refine ⟨_, _, rfl, rfl, _, rfl, ifT (by rw [List.length_map]; exact decide_eq_true (by omega)) ?_⟩
    refine ⟨_, _, rfl, rfl, _, rfl, ifT (by rw [List.length_map]; exact decide_eq_true (by omega)) ?_⟩
    refine ⟨_, rfl, b, rfl, ⟨_, SqT.of hb.1⟩, fun D hD => ?_⟩
    refine lc_tup (K := K) (a := b) (xs := bs.map V.int) (fun i H2 => Same H H2 ∧ H2 D = some (.lst ((List.replicate i true).map V.bl))) ⟨same_new hD _, upd_same⟩ (fun i H2 _ h => SqT.of (h.1 _ _ hb.1)) ?_ ?_
    · rintro i y H2 hi ⟨S2, hD2⟩
      obtain ⟨x, rfl, hx⟩ := at_map hi
      have hi2 : i < bs.length := (List.getElem?_eq_some_iff.mp hx).1
      refine ⟨rfl, ?_⟩
      exact ⟨_, rfl, x, rfl, _, hD2, by rw [rep_len]; exact small1000 (by omega), but_same hD S2 But.upd, by rw [upd_same, rep_snoc]⟩
    · rintro H2 ⟨S2, hD2⟩
      refine ⟨D, _, rfl, SqL.of hD2, ?_⟩
      rw [rep_all]
      exact q _ S2
def spWantBoard (K : PySem.W.Frag) : Sp := fun vs H Q _ => ∃ (b : Addr) (bs : List Int), vs = [.ref b] ∧ BoardAt H b bs ∧ ∀ H', Same H H' → Q .non H'
theorem k_want_board (D : Df K mg "want_board" s_want_board ["board"]) (D_is_board : Dn P w K mg base 2 "is_board" ["thing"] (spIsBoard K)) : Dn P w K mg base 3 "want_board" ["board"] (spWantBoard K) := by
  refine D.ok fun f fd F => okG0 F sc_want_board (fun vs H Q E h => ?_) (fun cdv A outer s H vs Q E hr h => ⟨_, (pss_one (ps_if (pt_not (pt_val (pe_cD D_is_board (hr.less (by decide)) rfl (pa_cons (pv 0) pa_nil))))
     (pss_one ps_never)
     pss_nil)), ?_⟩)
  · obtain ⟨b, bs, rfl, _⟩ := h; rfl
  · obtain ⟨b, bs, rfl, hb, q⟩ := h
    exact ⟨_, rfl, b, bs, rfl, hb, fun H' S => ⟨_, rfl, iteF (q _ S)⟩⟩
def spIsAsk (K : PySem.W.Frag) : Sp := fun vs H Q _ => ∃ (b : Addr) (bs : List Int) (x : Ak), vs = [.ref b, .ref x.a] ∧ BoardAt H b bs ∧ x.at_ H bs.length ∧ Q (.bl true) H
theorem k_is_ask (D : Df K mg "is_ask" s_is_ask ["board", "thing"]) (D_is_whole : Dn P w K mg base 1 "is_whole" ["thing"] spIsWhole) (D_is_deed : Dn P w K mg base 3 "is_deed" ["thing"] (spIsDeed K)) : Dn P w K mg base 4 "is_ask" ["board", "thing"] (spIsAsk K) := by
  refine D.ok fun f fd F => okG0 F sc_is_ask (fun vs H Q E h => ?_) (fun cdv A outer s H vs Q E hr h => ⟨_, (pss_cons (ps_if (PW.pt (pw_or (pt_not (pt_val (pe_callB (kk (K := K) (F := rIsi) (P := CallR _ _) call_isi) (by rfl) B.isinstance_ (by decide +kernel) (pa_cons (pv 1) (pa_cons (pe_bltn (v := .ty "tuple") (u := .type "tuple") (by rfl) B.tuple_ (by decide +kernel) rfl) pa_nil))))) (pw_or (pt_cmpR op_ne (pe_callB (lenK (K := K)) (by rfl) B.len_ (by decide +kernel) (pa_cons (pv 1) pa_nil)) pe_int (nomark _)) (pw_or (pt_not (pt_val (pe_cD D_is_whole (hr.less (by decide)) rfl (pa_cons (pe_ix (kk (K := K) (F := rIxT) (P := IxR _) ix_tup) (pv 1) pe_int (fun _ _ => rfl)) pa_nil)))) (pw_or1 (pt_not (pt_val (pe_cD D_is_whole (hr.less (by decide)) rfl (pa_cons (pe_ix (kk (K := K) (F := rIxT) (P := IxR _) ix_tup) (pv 1) pe_int (fun _ _ => rfl)) pa_nil)))))))))
      (pss_one (ps_ret pe_bl))
      pss_nil)
    (pss_one (ps_ret (pe_and (pe_chain op_le op_lt pe_int (pe_ix (kk (K := K) (F := rIxT) (P := IxR _) ix_tup) (pv 1) pe_int (fun _ _ => rfl)) (pe_glob (v := .int (16)) (u := .int (16) B.HANDS_.choose) (by rfl) B.HANDS_.choose_spec ⟨_, rfl⟩)) (pe_and (pe_chain op_le op_lt pe_int (pe_ix (kk (K := K) (F := rIxT) (P := IxR _) ix_tup) (pv 1) pe_int (fun _ _ => rfl)) (pe_callB (lenK (K := K)) (by rfl) B.len_ (by decide +kernel) (pa_cons (pv 0) pa_nil))) (pe_one (pe_cD D_is_deed (hr.less (by decide)) rfl (pa_cons (pe_ix (kk (K := K) (F := rIxT) (P := IxR _) ix_tup) (pv 1) pe_int (fun _ _ => rfl)) pa_nil)))))))), ?_⟩)
  · obtain ⟨b, bs, x, rfl, _⟩ := h; rfl
  · obtain ⟨b, bs, x, rfl, hb, hx, q⟩ := h
    obtain ⟨hxa, hxd, h0, h1, hbx⟩ := hx
    refine ⟨_, rfl, _, _, _, _, _, rfl, .ty _, .base (.tup hxa), kit_ty (b := "tuple") (r := true) (by decide +kernel), _, rfl, iteF ?_⟩
    refine ⟨_, rfl, _, _, rfl, .inr (SqT.of hxa), rfl, _, rfl, iteF ?_⟩
    refine ⟨_, rfl, x.a, _, _, _, rfl, rfl, SqT.of hxa, at_of (j := 0) rfl rfl, _, rfl, _, rfl, iteF ?_⟩
    refine ⟨_, rfl, x.a, _, _, _, rfl, rfl, SqT.of hxa, at_of (j := 1) rfl rfl, _, rfl, _, rfl, iteF ?_⟩
    refine ⟨_, rfl, x.a, _, _, _, rfl, rfl, SqT.of hxa, at_of (j := 0) rfl rfl, ?_⟩
    refine ⟨_, _, rfl, rfl, _, rfl, ifT (decide_eq_true h0) ?_⟩
    refine ⟨_, _, rfl, rfl, _, rfl, ifT (decide_eq_true h1) ?_⟩
    refine ⟨_, rfl, x.a, _, _, _, rfl, rfl, SqT.of hxa, at_of (j := 1) rfl rfl, ?_⟩
    refine ⟨_, _, rfl, rfl, _, rfl, ifT (decide_eq_true (by omega)) ?_⟩
    refine ⟨_, rfl, b, _, rfl, .inr (SqT.of hb.1), ?_⟩
    refine ⟨_, _, rfl, rfl, _, rfl, ifT (decide_eq_true (by rw [List.length_map]; omega)) ?_⟩
    exact ⟨_, rfl, x.a, _, _, _, rfl, rfl, SqT.of hxa, at_of (j := 2) rfl rfl, x.da, x.d, rfl, hxd.arg, q⟩
def spAreAsks (K : PySem.W.Frag) : Sp := fun vs H Q _ => ∃ (b k : Addr) (bs : List Int) (as : List Ak), vs = [.ref b, .ref k] ∧ BoardAt H b bs ∧ AsksAt H k as bs.length ∧ ∀ H', Same H H' → Q (.bl true) H'
theorem k_are_asks (D : Df K mg "are_asks" s_are_asks ["board", "thing"]) (D_want_board : Dn P w K mg base 3 "want_board" ["board"] (spWantBoard K)) (D_is_ask : Dn P w K mg base 4 "is_ask" ["board", "thing"] (spIsAsk K)) : Dn P w K mg base 5 "are_asks" ["board", "thing"] (spAreAsks K) := by
  refine D.ok fun f fd F => okG0 F sc_are_asks (fun vs H Q E h => ?_) (fun cdv A outer s H vs Q E hr h => ⟨_, (pss_cons (ps_expr (pe_cD D_want_board (hr.less (by decide)) rfl (pa_cons (pv 0) pa_nil)))
    (pss_one (ps_ret (pe_and (pe_callB (kk (K := K) (F := rIsi) (P := CallR _ _) call_isi) (by rfl) B.isinstance_ (by decide +kernel) (pa_cons (pv 1) (pa_cons (pe_bltn (v := .ty "tuple") (u := .type "tuple") (by rfl) B.tuple_ (by decide +kernel) rfl) pa_nil))) (pe_one (pe_callB (kk (K := K) (F := rAll) (P := CallR _ _) (cr_all rfl)) (by rfl) B.all_ (by decide +kernel) (pa_cons (pe_lc (own := [("one", 2)]) (g := gName 2) (tt := tYes) rfl sc_are_asks.nd (kk (K := K) (F := fun K => iTup K _) (P := PI _ _ _) (pi_tup (pv 1))) (blkOk_by (own := [("one", 2)]) (N := ["board", "thing", "one"]) (sc := defScope s_are_asks) (by decide +kernel)) (fun _ _ _ _ _ => (pg_name (i := 2) sc_are_asks.nd rfl (Or.inl rfl))) (fun _ _ _ _ _ => pts_nil) (fun _ _ _ _ _ => (pe_cD D_is_ask (hr.less (by decide)) rfl (pa_cons (pv 0) (pa_cons (pv 2) pa_nil))))) pa_nil))))))), ?_⟩)
  · obtain ⟨b, k, bs, as, rfl, _⟩ := h; rfl
  · obtain ⟨b, k, bs, as, rfl, hb, hk, q⟩ := h
    refine ⟨_, rfl, b, bs, rfl, hb, fun H1 S1 => ?_⟩
    have hk1 := hk.same S1
    refine ⟨_, rfl, _, _, _, _, _, rfl, .ty _, .base (.tup hk1.1), kit_ty (b := "tuple") (r := true) (by decide +kernel), _, rfl, iteT ?_⟩
    refine ⟨_, rfl, k, rfl, ⟨_, SqT.of hk1.1⟩, fun D hD => ?_⟩
    refine lc_tup (K := K) (a := k) (xs := as.map fun x => .ref x.a) (fun i H2 => Same H1 H2 ∧ H2 D = some (.lst ((List.replicate i true).map V.bl))) ⟨same_new hD _, upd_same⟩ (fun i H2 _ h => SqT.of (h.1 _ _ hk1.1)) ?_ ?_
    · rintro i y H2 hi ⟨S2, hD2⟩
      rw [List.getElem?_map] at hi
      obtain ⟨x, hx, rfl⟩ := Option.map_eq_some_iff.mp hi
      have hi2 : i < as.length := (List.getElem?_eq_some_iff.mp hx).1
      have hl := hk.2.1
      refine ⟨rfl, ?_⟩
      exact ⟨_, rfl, _, rfl, b, bs, x, rfl, (hb.same S1).same S2, ((hk1.2.2 x (List.mem_of_getElem? hx)).same S2), _, hD2, by rw [rep_len]; exact small1000 (by omega), but_same hD S2 But.upd, by rw [upd_same, rep_snoc]⟩
    · rintro H2 ⟨S2, hD2⟩
      refine ⟨D, _, rfl, SqL.of hD2, ?_⟩
      rw [rep_all]
      exact q _ (S1.trans S2)
def spWantAsks (K : PySem.W.Frag) : Sp := fun vs H Q _ => ∃ (b k : Addr) (bs : List Int) (as : List Ak), vs = [.ref b, .ref k] ∧ BoardAt H b bs ∧ AsksAt H k as bs.length ∧ ∀ H', Same H H' → Q .non H'
theorem k_want_asks (D : Df K mg "want_asks" s_want_asks ["board", "asks"]) (D_are_asks : Dn P w K mg base 5 "are_asks" ["board", "thing"] (spAreAsks K)) : Dn P w K mg base 6 "want_asks" ["board", "asks"] (spWantAsks K) := by
  refine D.ok fun f fd F => okG0 F sc_want_asks (fun vs H Q E h => ?_) (fun cdv A outer s H vs Q E hr h => ⟨_, (pss_one (ps_if (pt_not (pt_val (pe_cD D_are_asks (hr.less (by decide)) rfl (pa_cons (pv 0) (pa_cons (pv 1) pa_nil)))))
     (pss_one ps_never)
     pss_nil)), ?_⟩)
  · obtain ⟨b, k, bs, as, rfl, _⟩ := h; rfl
  · obtain ⟨b, k, bs, as, rfl, hb, hk, q⟩ := h
    exact ⟨_, rfl, _, rfl, b, k, bs, as, rfl, hb, hk, fun H' S => ⟨_, rfl, iteF (q _ S)⟩⟩
def spIsWithin : Sp := fun vs H Q _ => ∃ i a b : Int, vs = [.int i, .int a, .int b] ∧ a ≤ i ∧ i ≤ b ∧ Q (.bl true) H
theorem k_is_within (D : Df K mg "is_within" s_is_within ["thing", "least", "most"]) (D_is_whole : Dn P w K mg base 1 "is_whole" ["thing"] spIsWhole) : Dn P w K mg base 2 "is_within" ["thing", "least", "most"] spIsWithin := by
  refine D.ok fun f fd F => okG0 F sc_is_within (fun vs H Q E h => ?_) (fun cdv A outer s H vs Q E hr h => ⟨_, (pss_one (ps_ret (pe_and (pe_cD D_is_whole (hr.less (by decide)) rfl (pa_cons (pv 0) pa_nil)) (pe_one (pe_chain op_le op_le (pv 1) (pv 0) (pv 2)))))), ?_⟩)
  · obtain ⟨i, a, b, rfl, _⟩ := h; rfl
  · obtain ⟨i, a, b, rfl, h1, h2, q⟩ := h
    refine ⟨_, rfl, i, rfl, _, rfl, iteT ?_⟩
    refine ⟨_, rfl, _, rfl, _, _, rfl, rfl, _, rfl, ifT (decide_eq_true h1) ⟨_, rfl, _, _, rfl, rfl, ?_⟩⟩
    exact (show Q (.bl (decide (i ≤ b))) H by rw [decide_eq_true h2]; exact q)
def spWantNet : Sp := fun vs H Q _ => ∃ i d : Int, vs = [.int i, .int d] ∧ 0 ≤ i ∧ i ≤ d ∧ Q .non H
theorem k_want_net (D : Dfd K mg "want_net" s_want_net ["k", "deepest"] [.int 4]) (D_is_within : Dn P w K mg base 2 "is_within" ["thing", "least", "most"] spIsWithin) : DnD P w K mg base 3 "want_net" ["k", "deepest"] [.int 4] spWantNet := by
  refine D.ok fun f fd F => okG0A F sc_want_net (fun vs H Q E h => ?_) (fun cdv A outer s H vs Q E hr h => ⟨_, (pss_one (ps_if (pt_not (pt_val (pe_cD D_is_within (hr.less (by decide)) rfl (pa_cons (pv 0) (pa_cons pe_int (pa_cons (pv 1) pa_nil))))))
     (pss_one ps_never)
     pss_nil)), ?_⟩)
  · obtain ⟨i, d, rfl, _⟩ := h; rfl
  · obtain ⟨i, d, rfl, h1, h2, q⟩ := h
    exact ⟨_, rfl, _, rfl, i, 0, d, rfl, h1, h2, _, rfl, iteF q⟩
def spIsLine : Sp := fun vs H Q _ => ∃ k i : Nat, vs = [.int k, .int i] ∧ k ≤ 4 ∧ i < 2 ^ k ∧ Q (.bl true) H
theorem k_is_line (D : Df K mg "is_line" s_is_line ["k", "thing"]) (D_is_whole : Dn P w K mg base 1 "is_whole" ["thing"] spIsWhole) : Dn P w K mg base 2 "is_line" ["k", "thing"] spIsLine := by
  refine D.ok fun f fd F => okG0 F sc_is_line (fun vs H Q E h => ?_) (fun cdv A outer s H vs Q E hr h => ⟨_, (pss_one (ps_ret (pe_and (pe_cD D_is_whole (hr.less (by decide)) rfl (pa_cons (pv 1) pa_nil)) (pe_one (pe_chain op_le op_lt pe_int (pv 1) (pe_op op_shlW pe_int (pv 0))))))), ?_⟩)
  · obtain ⟨k, i, rfl, _⟩ := h; rfl
  · obtain ⟨k, i, rfl, h1, h2, q⟩ := h
    refine ⟨_, rfl, i, rfl, _, rfl, iteT ?_⟩
    refine ⟨_, rfl, _, _, rfl, rfl, _, rfl, ifT (decide_eq_true (by omega)) ⟨_, rfl, _, _, rfl, rfl, shl_ok (by omega), _, _, rfl, rfl, ?_⟩⟩
    have h3 : (i : Int) < 1 * 2 ^ ((k : Int)).toNat := by
      rw [Int.toNat_natCast, Int.one_mul]
      exact_mod_cast h2
    exact (show Q (.bl (decide ((i : Int) < 1 * 2 ^ ((k : Int)).toNat))) H by rw [decide_eq_true h3]; exact q)
def spWantLine : Sp := fun vs H Q _ => ∃ k i : Nat, vs = [.int k, .int i] ∧ k ≤ 4 ∧ i < 2 ^ k ∧ Q .non H
theorem k_want_hand (D : Df K mg "want_hand" s_want_hand ["k", "thing"]) (D_is_line : Dn P w K mg base 2 "is_line" ["k", "thing"] spIsLine) : Dn P w K mg base 3 "want_hand" ["k", "thing"] spWantLine := by
  refine D.ok fun f fd F => okG0 F sc_want_hand (fun vs H Q E h => ?_) (fun cdv A outer s H vs Q E hr h => ⟨_, (pss_one (ps_if (pt_not (pt_val (pe_cD D_is_line (hr.less (by decide)) rfl (pa_cons (pv 0) (pa_cons (pv 1) pa_nil)))))
     (pss_one ps_never)
     pss_nil)), ?_⟩)
  · obtain ⟨k, i, rfl, _⟩ := h; rfl
  · obtain ⟨k, i, rfl, h1, h2, q⟩ := h
    exact ⟨_, rfl, _, rfl, k, i, rfl, h1, h2, _, rfl, iteF q⟩
theorem k_want_side (D : Df K mg "want_side" s_want_side ["k", "thing"]) (D_is_line : Dn P w K mg base 2 "is_line" ["k", "thing"] spIsLine) : Dn P w K mg base 3 "want_side" ["k", "thing"] spWantLine := by
  refine D.ok fun f fd F => okG0 F sc_want_side (fun vs H Q E h => ?_) (fun cdv A outer s H vs Q E hr h => ⟨_, (pss_one (ps_if (pt_not (pt_val (pe_cD D_is_line (hr.less (by decide)) rfl (pa_cons (pv 0) (pa_cons (pv 1) pa_nil)))))
     (pss_one ps_never)
     pss_nil)), ?_⟩)
  · obtain ⟨k, i, rfl, _⟩ := h; rfl
  · obtain ⟨k, i, rfl, h1, h2, q⟩ := h
    exact ⟨_, rfl, _, rfl, k, i, rfl, h1, h2, _, rfl, iteF q⟩
def spLow : Sp := fun vs H Q _ => ∃ k h g lv : Nat, vs = [.int k, .int h, .int g, .int lv] ∧ k ≤ 4 ∧ lv ≤ k ∧ g < 2 ^ k ∧ Q (.int (low k h g lv)) H
theorem k_line_on_way (D : Df K mg "line_on_way" s_line_on_way ["k", "hand", "goal", "level"]) : Dn P w K mg base 1 "line_on_way" ["k", "hand", "goal", "level"] spLow := by
  refine D.ok fun f fd F => okG0 F sc_line_on_way (fun vs H Q E h => ?_) (fun cdv A outer s H vs Q E hr h => ⟨_, (pss_cons (ps_set (i := 4) sc_line_on_way.nd rfl (Or.inl rfl) (pe_op op_sub (pv 0) (pv 3)))
    (pss_one (ps_ret (pe_op op_or (pe_op op_shlW (pe_op op_shr (pv 2) (pv 4)) (pv 4)) (pe_op op_and (pv 1) (pe_op op_sub (pe_op op_shlW pe_int (pv 4)) pe_int)))))), ?_⟩)
  · obtain ⟨k, x, g, lv, rfl, _⟩ := h; rfl
  · obtain ⟨k, x, g, lv, rfl, h1, h2, h3, q⟩ := h
    have h4 := pow16 h1 h3
    refine ⟨_, rfl, _, rfl, _, _, rfl, rfl, ?_⟩
    refine ⟨_, rfl, _, rfl, _, _, rfl, rfl, by omega, _, rfl, _, _, rfl, rfl, shl_small (div_small (Nat.lt_of_lt_of_le h4 (by decide))) (by omega) (by omega), ?_⟩
    refine ⟨_, rfl, _, rfl, _, _, rfl, rfl, shl_small (by decide) (by omega) (by omega), _, _, rfl, rfl, _, _, rfl, rfl, _, _, rfl, rfl, ?_⟩
    exact q
def spNwo : Sp := fun vs H Q _ => ∃ k l st : Nat, vs = [.int k, .int l, .int st] ∧ k ≤ 4 ∧ st ≤ k ∧ l < 2 ^ k ∧ Q (.int (nwo k l st)) H
theorem k_number_without (D : Df K mg "number_without" s_number_without ["k", "line", "stage"]) : Dn P w K mg base 1 "number_without" ["k", "line", "stage"] spNwo := by
  refine D.ok fun f fd F => okG0 F sc_number_without (fun vs H Q E h => ?_) (fun cdv A outer s H vs Q E hr h => ⟨_, (pss_cons (ps_set (i := 3) sc_number_without.nd rfl (Or.inl rfl) (pe_op op_sub (pv 0) (pv 2)))
    (pss_one (ps_ret (pe_op op_or (pe_op op_shlW (pe_op op_shr (pv 1) (pe_op op_add (pv 3) pe_int)) (pv 3)) (pe_op op_and (pv 1) (pe_op op_sub (pe_op op_shlW pe_int (pv 3)) pe_int)))))), ?_⟩)
  · obtain ⟨k, l, st, rfl, _⟩ := h; rfl
  · obtain ⟨k, l, st, rfl, h1, h2, h3, q⟩ := h
    have h4 := pow16 h1 h3
    refine ⟨_, rfl, _, rfl, _, _, rfl, rfl, ?_⟩
    refine ⟨_, rfl, _, rfl, _, _, rfl, rfl, _, _, rfl, rfl, by omega, _, rfl, _, _, rfl, rfl, shl_small (div_small (Nat.lt_of_lt_of_le h4 (by decide))) (by omega) (by omega), ?_⟩
    refine ⟨_, rfl, _, rfl, _, _, rfl, rfl, shl_small (by decide) (by omega) (by omega), _, _, rfl, rfl, _, _, rfl, rfl, _, _, rfl, rfl, ?_⟩
    exact q
def spWay : Sp := fun vs H Q _ => ∃ k h g : Nat, vs = [.int k, .int h, .int g] ∧ k ≤ 4 ∧ h < 2 ^ k ∧ g < 2 ^ k ∧ ∀ T H', Same H H' → H' T = some (.tup (((List.range (k + 1)).map (low k h g)).map V.int)) → Q (.ref T) H'
theorem k_way (D : Df K mg "way" s_way ["k", "hand", "side"]) (D_want_net : DnD P w K mg base 3 "want_net" ["k", "deepest"] [.int 4] spWantNet) (D_want_hand : Dn P w K mg base 3 "want_hand" ["k", "thing"] spWantLine) (D_want_side : Dn P w K mg base 3 "want_side" ["k", "thing"] spWantLine) (D_line_on_way : Dn P w K mg base 1 "line_on_way" ["k", "hand", "goal", "level"] spLow) : Dn P w K mg base 4 "way" ["k", "hand", "side"] spWay := by
  refine D.ok fun f fd F => okG0 F sc_way (fun vs H Q E h => ?_) (fun cdv A outer s H vs Q E hr h => ⟨_, (pss_cons (ps_expr (pe_cDd D_want_net (hr.less (by decide)) rfl (pa_cons (pv 0) pa_nil)))
    (pss_cons (ps_expr (pe_cD D_want_hand (hr.less (by decide)) rfl (pa_cons (pv 0) (pa_cons (pv 1) pa_nil))))
    (pss_cons (ps_expr (pe_cD D_want_side (hr.less (by decide)) rfl (pa_cons (pv 0) (pa_cons (pv 2) pa_nil))))
    (pss_one (ps_ret (pe_callTy (tupOfK (K := K)) (by rfl) B.tuple_ (by decide +kernel) (pa_cons (pe_lc (own := [("level", 3)]) (g := gName 3) (tt := tYes) rfl sc_way.nd (pi_range1 (by rfl) B.range_ (pa_cons (pe_op op_add (pv 0) pe_int) pa_nil)) (blkOk_by (own := [("level", 3)]) (N := ["k", "hand", "side", "level"]) (sc := defScope s_way) (by decide +kernel)) (fun _ _ _ _ _ => (pg_name (i := 3) sc_way.nd rfl (Or.inl rfl))) (fun _ _ _ _ _ => pts_nil) (fun _ _ _ _ _ => (pe_cD D_line_on_way (hr.less (by decide)) rfl (pa_cons (pv 0) (pa_cons (pv 1) (pa_cons (pv 2) (pa_cons (pv 3) pa_nil))))))) pa_nil))))))), ?_⟩)
  · obtain ⟨k, x, g, rfl, _⟩ := h; rfl
  · obtain ⟨k, x, g, rfl, h1, h2, h3, q⟩ := h
    refine ⟨_, rfl, (k : Int), 4, rfl, by omega, by omega, _, rfl, _, rfl, k, x, rfl, h1, h2, _, rfl, _, rfl, k, g, rfl, h1, h3, ?_⟩
    refine ⟨_, rfl, _, _, rfl, rfl, _, rfl, by omega, by omega, fun D hD => ?_⟩
    have e : ((k : Int) + 1).toNat = k + 1 := by omega
    rw [e]
    refine lc_range (lo := 0) (n := k + 1) (fun i H2 => Same H H2 ∧ H2 D = some (.lst (((List.range i).map (low k x g)).map V.int))) ⟨same_new hD _, upd_same⟩ ?_ ?_
    · rintro i H2 hi ⟨S2, hD2⟩
      refine ⟨rfl, _, rfl, _, rfl, _, rfl, _, rfl, k, x, g, i, by show [V.int (k : Int), V.int x, V.int g, V.int (0 + (i : Int))] = _; rw [Int.zero_add], h1, by omega, h3, ?_⟩
      refine ⟨_, hD2, small1000 (by rw [List.length_map, List.length_map, List.length_range]; omega), but_same hD S2 But.upd, ?_⟩
      rw [upd_same, List.range_succ, List.map_append, List.map_append] <;> rfl
    · rintro H2 ⟨S2, hD2⟩
      refine ⟨D, _, rfl, .inl ⟨SqL.of hD2, fun T hT => q T _ (S2.trans (same_new hT _)) upd_same⟩⟩
omit B in
theorem low_lns {k lv : Nat} {p : Nat × Nat} (hk : k ≤ 4) (h : p.1 < 2 ^ k ∧ p.2 < 2 ^ k) (hl : lv < k + 1) : low k p.1 p.2 lv = lline k p.1 p.2 lv := low_is k (by omega) _ h.1 _ h.2 _ hl
/-- a row of pairs -/
structure PrT (H : Hp) (k : Nat) (T : Addr) (ts : List Addr) (ps : List (Nat × Nat)) : Prop where
  tup : H T = some (.tup (ts.map V.ref))
  pts : PtsAt H ts ps
  rng : ∀ p ∈ ps, p.1 < 2 ^ k ∧ p.2 < 2 ^ k
  len : ps.length ≤ 100
omit B in
theorem PrT.same {H H' : Hp} {k : Nat} {T : Addr} {ts : List Addr} {ps : List (Nat × Nat)} (a : PrT H k T ts ps) (e : Same H H') : PrT H' k T ts ps := ⟨e _ _ a.tup, a.pts.same e, a.rng, a.len⟩
omit B in
theorem PrT.get {H H' : Hp} {k : Nat} {T : Addr} {ts : List Addr} {ps : List (Nat × Nat)} {i : Nat} {x : V} (a : PrT H k T ts ps) (e : Same H H') (h : (ts.map V.ref)[i]? = some x) : ∃ (t : Addr) (p : Nat × Nat), x = .ref t ∧ ps[i]? = some p ∧ H' t = some (.tup [.int (p.1 : Nat), .int (p.2 : Nat)]) ∧ p.1 < 2 ^ k ∧ p.2 < 2 ^ k := by
  rw [List.getElem?_map] at h
  obtain ⟨t, ht, rfl⟩ := Option.map_eq_some_iff.mp h
  have hi : i < ps.length := by rw [← a.pts.1]; exact (List.getElem?_eq_some_iff.mp ht).1
  have e1 : ps[i]? = some ps[i] := List.getElem?_eq_getElem hi
  exact ⟨t, ps[i], rfl, e1, e _ _ (a.pts.2 i t _ ht e1), a.rng _ (List.getElem_mem hi)⟩
omit B in
theorem PrT.ln {H : Hp} {k : Nat} {T : Addr} {ts : List Addr} {ps : List (Nat × Nat)} (a : PrT H k T ts ps) : (ts.map V.ref).length = ps.length := by rw [List.length_map, a.pts.1]
omit B in
theorem eqv_nil {ns : List Int} : PyData.eqv (.list (ns.map PyData.int)) (.list []) = ns.isEmpty := by
  cases ns <;> rfl
def spWantPairs (K : PySem.W.Frag) : Sp := fun vs H Q _ => ∃ (k : Nat) (T : Addr) (ts : List Addr) (ps : List (Nat × Nat)), vs = [.int k, .ref T] ∧ k ≤ 4 ∧ PrT H k T ts ps ∧ ∀ H', Same H H' → Q .non H'
theorem k_want_pairs (D : Df K mg "want_pairs" s_want_pairs ["k", "pairs"]) (D_want_hand : Dn P w K mg base 3 "want_hand" ["k", "thing"] spWantLine) (D_want_side : Dn P w K mg base 3 "want_side" ["k", "thing"] spWantLine) : Dn P w K mg base 4 "want_pairs" ["k", "pairs"] (spWantPairs K) := by
  refine D.ok fun f fd F => okG0 F sc_want_pairs (fun vs H Q E h => ?_) (fun cdv A outer s H vs Q E hr h => ⟨_, (pss_cons (ps_if (PW.pt (pw_or (pt_not (pt_val (pe_callB (kk (K := K) (F := rIsi) (P := CallR _ _) call_isi) (by rfl) B.isinstance_ (by decide +kernel) (pa_cons (pv 1) (pa_cons (pe_bltn (v := .ty "tuple") (u := .type "tuple") (by rfl) B.tuple_ (by decide +kernel) rfl) pa_nil))))) (pw_or1 (pt_not (pt_val (pe_callB (kk (K := K) (F := rAll) (P := CallR _ _) (cr_all rfl)) (by rfl) B.all_ (by decide +kernel) (pa_cons (pe_lc (own := [("one", 4)]) (g := gName 4) (tt := tYes) rfl sc_want_pairs.nd (kk (K := K) (F := fun K => iTup K _) (P := PI _ _ _) (pi_tup (pv 1))) (blkOk_by (own := [("one", 4)]) (N := ["k", "pairs", "hand", "goal", "one"]) (sc := defScope s_want_pairs) (by decide +kernel)) (fun _ _ _ _ _ => (pg_name (i := 4) sc_want_pairs.nd rfl (Or.inl rfl))) (fun _ _ _ _ _ => pts_nil) (fun _ _ _ _ _ => (pe_and (pe_callB (kk (K := K) (F := rIsi) (P := CallR _ _) call_isi) (by rfl) B.isinstance_ (by decide +kernel) (pa_cons (pv 4) (pa_cons (pe_bltn (v := .ty "tuple") (u := .type "tuple") (by rfl) B.tuple_ (by decide +kernel) rfl) pa_nil))) (pe_one (pe_cmpR op_eq (pe_callB (lenK (K := K)) (by rfl) B.len_ (by decide +kernel) (pa_cons (pv 4) pa_nil)) pe_int (nomark _)))))) pa_nil)))))))
      (pss_one ps_never)
      pss_nil)
    (pss_cons (ps_for PassesOwn.never rfl (kk (K := K) (F := fun K => iTup K _) (P := PI _ _ _) (pi_tup (pv 1))) (kk (K := K) (F := fun K => gTup K 2 _) (P := PG _ _) (pg_tup rfl (pgs_cons (pg_name (i := 2) sc_want_pairs.nd rfl (Or.inl rfl)) (pgs_cons (pg_name (i := 3) sc_want_pairs.nd rfl (Or.inl rfl)) pgs_nil))))
      (pss_one (ps_expr (pe_cD D_want_hand (hr.less (by decide)) rfl (pa_cons (pv 0) (pa_cons (pv 2) pa_nil))))))
    (pss_one (ps_for PassesOwn.never rfl (kk (K := K) (F := fun K => iTup K _) (P := PI _ _ _) (pi_tup (pv 1))) (kk (K := K) (F := fun K => gTup K 2 _) (P := PG _ _) (pg_tup rfl (pgs_cons (pg_name (i := 2) sc_want_pairs.nd rfl (Or.inl rfl)) (pgs_cons (pg_name (i := 3) sc_want_pairs.nd rfl (Or.inl rfl)) pgs_nil))))
     (pss_one (ps_expr (pe_cD D_want_side (hr.less (by decide)) rfl (pa_cons (pv 0) (pa_cons (pv 3) pa_nil))))))))), ?_⟩)
  · obtain ⟨k, T, ts, ps, rfl, _⟩ := h; rfl
  · obtain ⟨k, T, ts, ps, rfl, hk, hP, q⟩ := h
    have hT := hP.tup
    have hl := hP.ln
    have hle := hP.len
    try walk_at "go"
    intro D hD
    refine lc_tup (K := K) (a := T) (xs := ts.map V.ref) (fun i H' => Same H H' ∧ H' D = some (.lst ((List.replicate i true).map V.bl))) ⟨same_new hD _, upd_same⟩ (fun i H' _ h => SqT.of (h.1 _ _ hT)) ?_ ?_
    · rintro i x H' hx ⟨S1, hD1⟩
      obtain ⟨t, p, rfl, ep, ht, h1, h2⟩ := hP.get S1 hx
      have hi : i < 101 := by have := (List.getElem?_eq_some_iff.mp ep).1; omega
      try walk_at "go"
      exact ⟨but_same hD S1 But.upd, by rw [upd_same]; exact congrArg (fun z => some (HO.lst z)) rep_snoc⟩
    rintro H2 ⟨S2, hD2⟩
    try walk_at "go"
    rw [rep_all]
    try walk_at "go"
    refine for_tup (K := K) (a := T) (xs := ts.map V.ref) (fun i σ H' => ∃ w2 w3 w4, σ = [some (.int (k : Nat)), some (.ref T), w2, w3, w4] ∧ Same H H') ⟨_, _, _, rfl, S2⟩ (fun i σ H' _ ⟨_, _, _, _, S⟩ => SqT.of (S _ _ hT)) ?_ ?_
    · rintro i x σ H3 hx ⟨w2, w3, w4, rfl, S3⟩
      obtain ⟨t, p, rfl, ep, ht, h1, h2⟩ := hP.get S3 hx
      try walk_at "go"
      exact S3
    rintro σ H3 ⟨w2, w3, w4, rfl, S3⟩
    try walk_at "go"
    refine for_tup (K := K) (a := T) (xs := ts.map V.ref) (fun i σ H' => ∃ w2 w3 w4, σ = [some (.int (k : Nat)), some (.ref T), w2, w3, w4] ∧ Same H H') ⟨_, _, _, rfl, S3⟩ (fun i σ H' _ ⟨_, _, _, _, S⟩ => SqT.of (S _ _ hT)) ?_ ?_
    · rintro i x σ H4 hx ⟨w2, w3, w4, rfl, S4⟩
      obtain ⟨t, p, rfl, ep, ht, h1, h2⟩ := hP.get S4 hx
      try walk_at "go"
      exact S4
    rintro σ H4 ⟨w2, w3, w4, rfl, S4⟩
    exact q _ S4
def rAns (k : Nat) (ps : List (Nat × Nat)) (H : Hp) (Q : VK) : Prop := ∀ r v H', Fst (lns k ps) k r → Same H H' → (match r with | none => v = .non | some (lv, x) => ∃ U, v = .ref U ∧ H' U = some (.tup [.int (lv : Nat), .int x])) → Q v H'
def spShared (K : PySem.W.Frag) : Sp := fun vs H Q _ => ∃ (k : Nat) (T : Addr) (ts : List Addr) (ps : List (Nat × Nat)), vs = [.int k, .ref T] ∧ k ≤ 4 ∧ PrT H k T ts ps ∧ rAns k ps H Q
theorem k_shared_line (D : Df K mg "shared_line" s_shared_line ["k", "pairs"]) (D_line_on_way : Dn P w K mg base 1 "line_on_way" ["k", "hand", "goal", "level"] spLow) : Dn P w K mg base 2 "shared_line" ["k", "pairs"] (spShared K) := by
  refine D.ok fun f fd F => okG0 F sc_shared_line (fun vs H Q E h => ?_) (fun cdv A outer s H vs Q E hr h => ⟨_, (pss_cons (ps_for PassesOwn.never rfl (pi_range1 (by rfl) B.range_ (pa_cons (pe_op op_add (pv 0) pe_int) pa_nil)) (pg_name (i := 2) sc_shared_line.nd rfl (Or.inr rfl))
      (pss_cons (ps_set (i := 3) sc_shared_line.nd rfl (Or.inr rfl) (pe_lc (own := [("hand", 5), ("goal", 6)]) (tt := tYes) rfl sc_shared_line.nd (kk (K := K) (F := fun K => iTup K _) (P := PI _ _ _) (pi_tup (pv 1))) (blkOk_by (own := [("hand", 5), ("goal", 6)]) (N := ["k", "pairs", "level", "lines", "found", "hand", "goal", "line"]) (sc := defScope s_shared_line) (by decide +kernel)) (fun _ _ _ _ _ => (kk (K := K) (F := fun K => gTup K 2 _) (P := PG _ _) (pg_tup rfl (pgs_cons (pg_name (i := 5) sc_shared_line.nd rfl (Or.inl rfl)) (pgs_cons (pg_name (i := 6) sc_shared_line.nd rfl (Or.inl rfl)) pgs_nil))))) (fun _ _ _ _ _ => pts_nil) (fun _ _ _ _ _ => (pe_cD D_line_on_way (hr.less (by decide)) rfl (pa_cons (pv 0) (pa_cons (pv 5) (pa_cons (pv 6) (pa_cons (pv 2) pa_nil))))))))
      (pss_cons (ps_setLc (i := 4) (own := [("line", 7)]) (g := gName 7) rfl sc_shared_line.nd rfl rfl (sw_true rfl rfl rfl (by decide +kernel)) (kk (K := K) (F := fun K => iList K _) (P := PI _ _ _) (pi_list (pv 3))) (blkOk_by (own := [("line", 7)]) (N := ["k", "pairs", "level", "lines", "found", "hand", "goal", "line"]) (sc := defScope s_shared_line) (by decide +kernel)) (fun _ _ _ _ _ => (pg_name (i := 7) sc_shared_line.nd rfl (Or.inl rfl))) (fun _ _ _ _ _ => (pts_one (pt_cmpR op_gt (kk (K := K) (F := fun K => tBM K "list" _ _ _) (P := PE _ _) (pe_bm PySem.F.plainAttrs_list PySem.F.slot_list_count PySem.F.type_list_count mt_lcount (pv 3) (pa_cons (pv 7) pa_nil))) pe_int (nomark _)))) (fun _ _ _ _ _ => (pv 7)))
      (pss_one (ps_if (pt_cmpR (kk (K := K) (F := rNeD) (P := OpR _ _) (op_neD hr.units)) (pv 4) (pe_lst pa_nil) (nomark _))
       (pss_one (ps_ret (pe_tup (pa_cons (pv 2) (pa_cons (pe_callB (kk (K := K) (F := rMin) (P := CallR _ _) (cr_min rfl)) (by rfl) B.min_ (by decide +kernel) (pa_cons (pv 4) pa_nil)) pa_nil)))))
       pss_nil)))))
    (pss_one (ps_ret pe_non))), ?_⟩)
  · obtain ⟨k, T, ts, ps, rfl, _⟩ := h; rfl
  · obtain ⟨k, T, ts, ps, rfl, hk, hP, q⟩ := h
    have hl := hP.ln
    have hle := hP.len
    try walk_at "go"
    have e5 : (((k : Nat) : Int) + 1).toNat = k + 1 := by omega
    rw [e5]
    refine for_range (lo := 0) (n := k + 1) (fun i σ H' => ∃ w2 w3 w4 w5 w6 w7, σ = [some (.int (k : Nat)), some (.ref T), w2, w3, w4, w5, w6, w7] ∧ Same H H' ∧ ∀ lv, lv < i → ∀ x, ¬ Rp (lns k ps lv) x) ⟨_, _, _, _, _, _, rfl, fun _ _ h => h, fun lv h => by omega⟩ ?_ ?_
    · rintro i σ H1 hi ⟨w2, w3, w4, w5, w6, w7, rfl, S1, no1⟩
      rw [Int.zero_add]
      have hT1 := S1 _ _ hP.tup
      try walk_at "go"
      intro D hD
      refine lc_tup (K := K) (a := T) (xs := ts.map V.ref) (fun j H' => Same H1 H' ∧ H' D = some (.lst ((lns k (ps.take j) i).map V.int))) ⟨same_new hD _, upd_same⟩ (fun j H' _ h => SqT.of (h.1 _ _ hT1)) ?_ ?_
      · rintro j x H' hx ⟨S2, hD2⟩
        obtain ⟨t, p, rfl, ep, ht, h1, h2⟩ := hP.get (S1.trans S2) hx
        have hj : j < 101 := by have := (List.getElem?_eq_some_iff.mp ep).1; omega
        have el := low_lns (k := k) (lv := i) (p := p) hk ⟨h1, h2⟩ hi
        have et : lns k (ps.take (j + 1)) i = lns k (ps.take j) i ++ [lline k p.1 p.2 i] := by unfold lns; rw [List.take_succ, ep, List.map_append] <;> rfl
        have ll : ((lns k (ps.take j) i).map V.int).length ≤ 200 := by unfold lns; rw [List.length_map, List.length_map, List.length_take]; omega
        try walk_at "go"
        refine ⟨but_same hD S2 But.upd, ?_⟩
        rw [upd_same, et, List.map_append, el] <;> rfl
      rintro H2 ⟨S2, hD2⟩
      rw [hl, List.take_length] at hD2
      try walk_at "go"
      intro E hE
      have lL : (lns k ps i).length ≤ 100 := by unfold lns; rw [List.length_map]; exact hle
      generalize hL : lns k ps i = L at hD2 lL
      refine lc_list (K := K) (a := D) (xs := L.map V.int) (fun j H' => Same H2 H' ∧ H' E = some (.lst (((L.take j).filter fun x => decide (1 < L.count x)).map V.int))) ⟨same_new hE _, upd_same⟩ (fun j H' _ h => SqL.of (h.1 _ _ hD2)) ?_ ?_
      · rintro j x H' hx ⟨S3, hE3⟩
        rw [List.getElem?_map] at hx
        obtain ⟨z, hz, rfl⟩ := Option.map_eq_some_iff.mp hx
        have et : L.take (j + 1) = L.take j ++ [z] := by rw [List.take_succ, hz] <;> rfl
        have ll : (((L.take j).filter fun x => decide (1 < L.count x)).map V.int).length ≤ 200 := by
          rw [List.length_map]
          refine Nat.le_trans (List.length_filter_le _ _) ?_
          rw [List.length_take]; omega
        try walk_at "go"
        refine ite2 (fun c => ?_) (fun c => ?_)
        · have c2 : 1 < L.count z := by have := of_decide_eq_true c; omega
          try walk_at "go"
          refine ⟨but_same hE S3 But.upd, ?_⟩
          rw [upd_same, et, List.filter_append, List.map_append, List.filter_cons_of_pos (by rw [decide_eq_true c2]), List.filter_nil] <;> rfl
        · have c2 : ¬ 1 < L.count z := fun z => c (decide_eq_true (by omega))
          refine ⟨S3, ?_⟩
          rw [hE3, et, List.filter_append, List.filter_cons_of_neg (by simpa using c2), List.filter_nil, List.append_nil]
      rintro H3 ⟨S3, hE3⟩
      rw [List.length_map, List.take_length] at hE3
      have rep : ∀ x, x ∈ L.filter (fun x => decide (1 < L.count x)) ↔ Rp L x := by
        intro x
        rw [List.mem_filter, decide_eq_true_iff]
        exact ⟨fun h => h.2, fun h => ⟨List.count_pos_iff.mp (by unfold Rp at h; omega), h⟩⟩
      generalize L.filter (fun x => decide (1 < L.count x)) = F at hE3 rep
      have S13 : Same H H3 := S1.trans (S2.trans S3)
      try walk_at "go"
      intro N hN
      generalize eH4 : upd _ N _ = H4
      have SH4 := newS eH4 hN
      have oN := newO eH4
      try walk_at "go"
      rw [eqv_nil]
      cases F with
      | nil =>
        try walk_at "go"
        refine ⟨S13.trans SH4, fun lv hlv x hx => ?_⟩
        rcases Nat.lt_or_ge lv i with c | c
        · exact no1 lv c x hx
        · obtain rfl : lv = i := by omega
          rw [hL] at hx
          exact absurd ((rep x).mpr hx) List.not_mem_nil
      | cons f F =>
        try walk_at "go"
        intro m hm hle2
        try walk_at "go"
        intro U hU
        generalize eH5 : upd _ U _ = H5
        have SH5 := newS eH5 hU
        have oU := newO eH5
        refine q (some (i, m)) _ _ ⟨by omega, by rw [hL]; exact (rep m).mp hm, fun y hy => ?_, no1⟩ (S13.trans (SH4.trans SH5)) ⟨U, rfl, oU⟩
        rw [hL] at hy
        exact hle2 y ((rep y).mpr hy)
    · rintro σ H1 ⟨w2, w3, w4, w5, w6, w7, rfl, S1, no1⟩
      exact q none _ _ (fun lv hl => no1 lv (by omega)) S1 rfl
theorem k_first_shared (D : Df K mg "first_shared" s_first_shared ["k", "pairs"]) (D_want_net : DnD P w K mg base 3 "want_net" ["k", "deepest"] [.int 4] spWantNet) (D_want_pairs : Dn P w K mg base 4 "want_pairs" ["k", "pairs"] (spWantPairs K)) (D_shared_line : Dn P w K mg base 2 "shared_line" ["k", "pairs"] (spShared K)) : Dn P w K mg base 5 "first_shared" ["k", "pairs"] (spShared K) := by
  refine D.ok fun f fd F => okG0 F sc_first_shared (fun vs H Q E h => ?_) (fun cdv A outer s H vs Q E hr h => ⟨_, (pss_cons (ps_expr (pe_cDd D_want_net (hr.less (by decide)) rfl (pa_cons (pv 0) pa_nil)))
    (pss_cons (ps_expr (pe_cD D_want_pairs (hr.less (by decide)) rfl (pa_cons (pv 0) (pa_cons (pv 1) pa_nil))))
    (pss_one (ps_ret (pe_cD D_shared_line (hr.less (by decide)) rfl (pa_cons (pv 0) (pa_cons (pv 1) pa_nil))))))), ?_⟩)
  · obtain ⟨k, T, ts, ps, rfl, _⟩ := h; rfl
  · obtain ⟨k, T, ts, ps, rfl, hk, hP, q⟩ := h
    try walk_at "go"
    intro H1 S1
    have hP1 := hP.same S1
    have q1 : rAns k ps H1 Q := fun r v H' h1 h2 h3 => q r v H' h1 (S1.trans h2) h3
    try walk_at "go"
    exact q1
/-! SPLIT -/
/-! settings as rows of 0 and 1 -/
/-- settings as told -/
def Tbl := Nat → Nat → Int
omit B in
theorem row_len {k : Nat} {s : Nat → Nat → Int} {j : Nat} : (row k s j).length = 2 ^ (k - 1) := by unfold row; rw [List.length_map, List.length_range]
omit B in
theorem row_at {k : Nat} {s : Nat → Nat → Int} {j n : Nat} (h : n < 2 ^ (k - 1)) : (row k s j)[n]? = some (s j n) := by unfold row; rw [List.getElem?_map, List.getElem?_range h] <;> rfl
omit B in
theorem row_bit {k : Nat} {s : Nat → Nat → Int} {j : Nat} (h : Bt s) : ∀ x ∈ row k s j, x = 0 ∨ x = 1 := fun x hx => by
  obtain ⟨n, _, rfl⟩ := List.mem_map.mp hx
  exact h j n
def SeAt (H : Hp) (T : Addr) (k : Nat) (s : Nat → Nat → Int) : Prop := ∃ as : List Addr, H T = some (.tup (as.map V.ref)) ∧ as.length = k ∧ ∀ (j : Nat) (a : Addr), as[j]? = some a → H a = some (.tup ((row k s j).map V.int))
omit B in
theorem SeAt.same {H H' : Hp} {T : Addr} {k : Nat} {s : Nat → Nat → Int} (a : SeAt H T k s) (e : Same H H') : SeAt H' T k s := by
  obtain ⟨as, h1, h2, h3⟩ := a
  exact ⟨as, e _ _ h1, h2, fun j x hx => e _ _ (h3 j x hx)⟩
def nV (ss : List Nat) : List V := ss.map fun n => V.int (n : Nat)
omit B in
theorem nV_snoc {ss : List Nat} {n : Nat} : nV ss ++ [.int (n : Nat)] = nV (ss ++ [n]) := by unfold nV; rw [List.map_append] <;> rfl
omit B in
theorem mV_snoc {α : Type} {f : α → V} {ss : List α} {n : α} : ss.map f ++ [f n] = (ss ++ [n]).map f := by rw [List.map_append] <;> rfl
/-- a side for each hand -/
def sdl (k : Nat) (g : Nat → Nat) : List Nat := (List.range (2 ^ k)).map g
omit B in
theorem sdl_len {k : Nat} {g : Nat → Nat} : (nV (sdl k g)).length = 2 ^ k := by unfold nV sdl; rw [List.length_map, List.length_map, List.length_range]
omit B in
theorem sdl_at {k i : Nat} {g : Nat → Nat} {x : V} (h : (nV (sdl k g))[i]? = some x) : i < 2 ^ k ∧ x = .int (g i : Nat) := by
  have l := (List.getElem?_eq_some_iff.mp h).1
  rw [sdl_len] at l
  unfold nV sdl at h
  rw [List.getElem?_map, List.getElem?_map, List.getElem?_range l] at h
  exact ⟨l, (Option.some.inj h).symm⟩
omit B in
theorem ints_refs {ns : List Int} {rs : List Addr} (h : ns ≠ []) : HO.lst (ns.map V.int) ≠ HO.lst (rs.map V.ref) := fun z => by
  have z2 := HO.lst.inj z
  cases ns with
  | nil => exact h rfl
  | cons n ns =>
    cases rs with
    | nil => cases z2
    | cons r rs => cases z2
/-- the stepper stops here -/
structure Kept (p : Prop) : Prop where
  ex : p
/-- rows of numbers that are written into -/
structure RowsAt (H : Hp) (rs : List Addr) (k : Nat) (c : Nat → Nat → Int) : Prop where
  len : rs.length = k
  inj : ∀ (i j : Nat) (a : Addr), rs[i]? = some a → rs[j]? = some a → i = j
  at_ : ∀ (j : Nat) (a : Addr), rs[j]? = some a → H a = some (.lst ((row k c j).map V.int))
omit B in
theorem row_ne {k j : Nat} {c : Nat → Nat → Int} : row k c j ≠ [] := fun z => by
  have := congrArg List.length z
  rw [row_len] at this
  have h2 := Nat.two_pow_pos (k - 1)
  simp at this
omit B in
theorem RowsAt.upd {H H' : Hp} {rs : List Addr} {k j n : Nat} {c : Nat → Nat → Int} {v : Int} {a : Addr} (R : RowsAt H rs k c) (ha : rs[j]? = some a) (b : But a H H')
    (o : H' a = some (.lst (((row k c j).map V.int).set n (.int v)))) (hn : n < 2 ^ (k - 1)) : RowsAt H' rs k (wr c j n v) := by
  refine ⟨R.len, R.inj, fun i x hx => ?_⟩
  by_cases e : i = j
  · subst e
    rw [ha] at hx
    cases (Option.some.inj hx)
    rw [o, row_wr hn, List.map_set]
  · rw [row_wr_ne e]
    refine b _ _ (fun z => e ?_) (R.at_ i x hx)
    subst z
    exact R.inj i j x hx ha
omit B in
theorem RowsAt.same {H H' : Hp} {rs : List Addr} {k : Nat} {c : Nat → Nat → Int} (R : RowsAt H rs k c) (e : Same H H') : RowsAt H' rs k c := ⟨R.len, R.inj, fun j a h => e _ _ (R.at_ j a h)⟩
omit B in
theorem SeAt.get {H : Hp} {T : Addr} {k j n : Nat} {s : Nat → Nat → Int} (a : SeAt H T k s) (hj : j < k) (hn : n < 2 ^ (k - 1)) : ∃ (as : List Addr) (r : Addr), H T = some (.tup (as.map V.ref)) ∧ atI (as.map V.ref) (j : Int) = some (.ref r) ∧ H r = some (.tup ((row k s j).map V.int)) ∧ atI ((row k s j).map V.int) (n : Int) = some (.int (s j n)) := by
  obtain ⟨as, h1, h2, h3⟩ := a
  have e : as[j]? = some as[j] := List.getElem?_eq_getElem (by omega)
  exact ⟨as, as[j], h1, atI_nat (by rw [List.getElem?_map, e] <;> rfl), h3 _ _ e, atI_nat (by rw [List.getElem?_map, row_at hn] <;> rfl)⟩
omit B in
theorem bit_shl {c : Int} {k j : Nat} (hk : k ≤ 4) (hj : j < k) (h : c = 0 ∨ c = 1) : CShl c ((k : Int) - ((j + 1 : Nat) : Int)) := shl_small (by rcases h with rfl | rfl <;> decide) (by omega) (by omega)
def spFig : Sp := fun vs H Q _ => ∃ k n st : Nat, vs = [.int k, .int n, .int st] ∧ k ≤ 4 ∧ st ≤ k ∧ n < 2 ^ k ∧ Q (.int (fg k n st)) H
theorem k_figure_in (D : Df K mg "figure_in" s_figure_in ["k", "line", "stage"]) : Dn P w K mg base 1 "figure_in" ["k", "line", "stage"] spFig := by
  refine D.ok fun f fd F => okG0 F sc_figure_in (fun vs H Q E h => ?_) (fun cdv A outer s H vs Q E hr h => ⟨_, (pss_one (ps_ret (pe_op op_and (pe_op op_shr (pv 1) (pe_op op_sub (pv 0) (pv 2))) pe_int))), ?_⟩)
  · obtain ⟨k, n, st, rfl, _⟩ := h; rfl
  · obtain ⟨k, n, st, rfl, h1, h2, h3, q⟩ := h
    try walk_at "go"
    exact q
def spIsSR (K : PySem.W.Frag) : Sp := fun vs H Q _ => ∃ (k : Nat) (T : Addr) (xs : List Int), vs = [.int k, .ref T] ∧ 1 ≤ k ∧ k ≤ 4 ∧ H T = some (.tup (xs.map V.int)) ∧ xs.length = 2 ^ (k - 1) ∧ (∀ x ∈ xs, x = 0 ∨ x = 1) ∧ ∀ H', Same H H' → Q (.bl true) H'
theorem k_is_setting_row (D : Df K mg "is_setting_row" s_is_setting_row ["k", "thing"]) (D_is_whole : Dn P w K mg base 1 "is_whole" ["thing"] spIsWhole) : Dn P w K mg base 2 "is_setting_row" ["k", "thing"] (spIsSR K) := by
  refine D.ok fun f fd F => okG0 F sc_is_setting_row (fun vs H Q E h => ?_) (fun cdv A outer s H vs Q E hr h => ⟨_, (pss_cons (ps_if (PW.pt (pw_or (pt_not (pt_val (pe_callB (kk (K := K) (F := rIsi) (P := CallR _ _) call_isi) (by rfl) B.isinstance_ (by decide +kernel) (pa_cons (pv 1) (pa_cons (pe_bltn (v := .ty "tuple") (u := .type "tuple") (by rfl) B.tuple_ (by decide +kernel) rfl) pa_nil))))) (pw_or1 (pt_cmpR op_ne (pe_callB (lenK (K := K)) (by rfl) B.len_ (by decide +kernel) (pa_cons (pv 1) pa_nil)) (pe_op op_shlW pe_int (pe_op op_sub (pv 0) pe_int)) (nomark _)))))
      (pss_one (ps_ret pe_bl))
      pss_nil)
    (pss_one (ps_ret (pe_callB (kk (K := K) (F := rAll) (P := CallR _ _) (cr_all rfl)) (by rfl) B.all_ (by decide +kernel) (pa_cons (pe_lc (own := [("number", 2)]) (g := gName 2) (tt := tYes) rfl sc_is_setting_row.nd (kk (K := K) (F := fun K => iTup K _) (P := PI _ _ _) (pi_tup (pv 1))) (blkOk_by (own := [("number", 2)]) (N := ["k", "thing", "number"]) (sc := defScope s_is_setting_row) (by decide +kernel)) (fun _ _ _ _ _ => (pg_name (i := 2) sc_is_setting_row.nd rfl (Or.inl rfl))) (fun _ _ _ _ _ => pts_nil) (fun _ _ _ _ _ => (pe_and (pe_cD D_is_whole (hr.less (by decide)) rfl (pa_cons (pv 2) pa_nil)) (pe_one (pe_chain op_le op_le pe_int (pv 2) pe_int))))) pa_nil))))), ?_⟩)
  · obtain ⟨k, T, xs, rfl, _⟩ := h; rfl
  · obtain ⟨k, T, xs, rfl, k1, hk, hT, hl, hb, q⟩ := h
    have e1 : (k : Int) - 1 = ((k - 1 : Nat) : Int) := by omega
    have hsh : CShl 1 ((k : Int) - 1) := by rw [e1]; exact shl_ok (by omega)
    have eL : (1 : Int) * 2 ^ (((k : Nat) : Int) - 1).toNat = ((2 ^ (k - 1) : Nat) : Int) := by rw [Int.one_mul, e1, Int.toNat_natCast]; push_cast; rfl
    have hl2 : (xs.map V.int).length = 2 ^ (k - 1) := by rw [List.length_map, hl]
    have e8 : 2 ^ (k - 1) ≤ 8 := (Nat.pow_le_pow_right (by decide) (by omega) : 2 ^ (k - 1) ≤ 2 ^ 3)
    try walk_at "go"
    refine ite2 (fun c => ?_) (fun c => ?_)
    · have e9 : V.int ((xs.map V.int).length : Nat) = V.int ((1 : Int) * 2 ^ (((k : Nat) : Int) - 1).toNat) := by rw [hl2, eL]
      rw [show decide (V.int ((xs.map V.int).length : Nat) = (fun i j : Int => V.int (i * 2 ^ j.toNat)) 1 ((k : Int) - 1)) = true from decide_eq_true e9] at c
      exact absurd c (by decide)
    try walk_at "go"
    intro D hD
    refine lc_tup (K := K) (a := T) (xs := xs.map V.int) (fun i H' => Same H H' ∧ H' D = some (.lst ((List.replicate i true).map V.bl))) ⟨same_new hD _, upd_same⟩ (fun i H' _ h => SqT.of (h.1 _ _ hT)) ?_ ?_
    · rintro i x H' hx ⟨S1, hD1⟩
      rw [List.getElem?_map] at hx
      obtain ⟨z, hz, rfl⟩ := Option.map_eq_some_iff.mp hx
      have hi : i < 8 := by have := (List.getElem?_eq_some_iff.mp hz).1; omega
      have hz1 := hb z (List.mem_of_getElem? hz)
      have z0 : 0 ≤ z := by omega
      have z1 : z ≤ 1 := by omega
      try walk_at "go"
      refine ifT (decide_eq_true z0) ?_
      try walk_at "go"
      have e11 : (fun i j : Int => V.bl (decide (i ≤ j))) z 1 = V.bl true := congrArg V.bl (decide_eq_true z1)
      rw [e11]
      exact ⟨but_same hD S1 But.upd, by rw [upd_same]; exact congrArg (fun z => some (HO.lst z)) rep_snoc⟩
    rintro H2 ⟨S2, hD2⟩
    try walk_at "go"
    rw [rep_all]
    exact q _ S2
def spIsSe (K : PySem.W.Frag) : Sp := fun vs H Q _ => ∃ (k : Nat) (T : Addr) (s : Tbl), vs = [.int k, .ref T] ∧ k ≤ 4 ∧ SeAt H T k s ∧ Bt s ∧ ∀ H', Same H H' → Q (.bl true) H'
theorem k_is_settings (D : Df K mg "is_settings" s_is_settings ["k", "thing"]) (D_want_net : DnD P w K mg base 3 "want_net" ["k", "deepest"] [.int 4] spWantNet) (D_is_setting_row : Dn P w K mg base 2 "is_setting_row" ["k", "thing"] (spIsSR K)) : Dn P w K mg base 4 "is_settings" ["k", "thing"] (spIsSe K) := by
  refine D.ok fun f fd F => okG0 F sc_is_settings (fun vs H Q E h => ?_) (fun cdv A outer s H vs Q E hr h => ⟨_, (pss_cons (ps_expr (pe_cDd D_want_net (hr.less (by decide)) rfl (pa_cons (pv 0) pa_nil)))
    (pss_one (ps_ret (pe_and (pe_callB (kk (K := K) (F := rIsi) (P := CallR _ _) call_isi) (by rfl) B.isinstance_ (by decide +kernel) (pa_cons (pv 1) (pa_cons (pe_bltn (v := .ty "tuple") (u := .type "tuple") (by rfl) B.tuple_ (by decide +kernel) rfl) pa_nil))) (pe_and (pe_cmpR op_eq (pe_callB (lenK (K := K)) (by rfl) B.len_ (by decide +kernel) (pa_cons (pv 1) pa_nil)) (pv 0) (nomark _)) (pe_one (pe_callB (kk (K := K) (F := rAll) (P := CallR _ _) (cr_all rfl)) (by rfl) B.all_ (by decide +kernel) (pa_cons (pe_lc (own := [("row", 2)]) (g := gName 2) (tt := tYes) rfl sc_is_settings.nd (kk (K := K) (F := fun K => iTup K _) (P := PI _ _ _) (pi_tup (pv 1))) (blkOk_by (own := [("row", 2)]) (N := ["k", "thing", "row"]) (sc := defScope s_is_settings) (by decide +kernel)) (fun _ _ _ _ _ => (pg_name (i := 2) sc_is_settings.nd rfl (Or.inl rfl))) (fun _ _ _ _ _ => pts_nil) (fun _ _ _ _ _ => (pe_cD D_is_setting_row (hr.less (by decide)) rfl (pa_cons (pv 0) (pa_cons (pv 2) pa_nil))))) pa_nil)))))))), ?_⟩)
  · obtain ⟨k, T, s, rfl, _⟩ := h; rfl
  · obtain ⟨k, T, s, rfl, hk, ⟨as, hT, hl, has⟩, hb, q⟩ := h
    have hl2 : (as.map V.ref).length = k := by rw [List.length_map, hl]
    try walk_at "go"
    refine ifT (decide_eq_true (by rw [hl2])) ?_
    try walk_at "go"
    intro D hD
    refine lc_tup (K := K) (a := T) (xs := as.map V.ref) (fun i H' => Kept (Same H H' ∧ H' D = some (.lst ((List.replicate i true).map V.bl)))) ⟨same_new hD _, upd_same⟩ (fun i H' _ h => SqT.of (h.ex.1 _ _ hT)) ?_ ?_
    · rintro i x H' hx ⟨S1, hD1⟩
      rw [List.getElem?_map] at hx
      obtain ⟨a, ha, rfl⟩ := Option.map_eq_some_iff.mp hx
      have hi : i < k := by have := (List.getElem?_eq_some_iff.mp ha).1; omega
      have hA := S1 _ _ (has i a ha)
      have hrl := row_len (k := k) (s := s) (j := i)
      have hrb := row_bit (k := k) (j := i) hb
      have k1 : 1 ≤ k := by omega
      try walk_at "go"
      intro H3 S3
      have hD3 := S3 _ _ hD1
      try walk_at "go"
      exact ⟨⟨but_same hD (S1.trans S3) But.upd, by rw [upd_same]; exact congrArg (fun z => some (HO.lst z)) rep_snoc⟩⟩
    rintro H2 ⟨S2, hD2⟩
    try walk_at "go"
    rw [rep_all]
    exact q _ S2
def spWantSe (K : PySem.W.Frag) : Sp := fun vs H Q _ => ∃ (k : Nat) (T : Addr) (s : Tbl), vs = [.int k, .ref T] ∧ k ≤ 4 ∧ SeAt H T k s ∧ Bt s ∧ ∀ H', Same H H' → Q .non H'
theorem k_want_settings (D : Df K mg "want_settings" s_want_settings ["k", "thing"]) (D_is_settings : Dn P w K mg base 4 "is_settings" ["k", "thing"] (spIsSe K)) : Dn P w K mg base 5 "want_settings" ["k", "thing"] (spWantSe K) := by
  refine D.ok fun f fd F => okG0 F sc_want_settings (fun vs H Q E h => ?_) (fun cdv A outer s H vs Q E hr h => ⟨_, (pss_one (ps_if (pt_not (pt_val (pe_cD D_is_settings (hr.less (by decide)) rfl (pa_cons (pv 0) (pa_cons (pv 1) pa_nil)))))
     (pss_one ps_never)
     pss_nil)), ?_⟩)
  · obtain ⟨k, T, s, rfl, _⟩ := h; rfl
  · obtain ⟨k, T, s, rfl, hk, hS, hb, q⟩ := h
    try walk_at "go"
    intro H1 S1
    try walk_at "go"
    exact q _ S1
omit B in
theorem none_back {H H' : Hp} {a : Addr} (S : Same H H') (h : H' a = none) : H a = none := by
  cases e : H a with
  | none => rfl
  | some o =>
    rw [S _ _ e] at h
    cases h
omit B in
theorem flat_rep {k : Nat} : (List.replicate (2 ^ (k - 1)) [V.int 0]).flatten = (row k (fun _ _ => 0) 0).map V.int := by
  unfold row
  rw [List.map_map]
  have : ∀ n, (List.replicate n [V.int 0]).flatten = (List.range n).map (V.int ∘ (fun _ => (0 : Int))) := by
    intro n
    induction n with
    | zero => rfl
    | succ n ih => rw [List.replicate_succ', List.flatten_append, ih, List.range_succ, List.map_append] <;> rfl
  exact this _
omit B in
theorem inj_snoc {rs : List Addr} {R : Addr} (inj : ∀ (i j : Nat) (a : Addr), rs[i]? = some a → rs[j]? = some a → i = j) (n : ∀ a ∈ rs, a ≠ R) : ∀ (i j : Nat) (a : Addr), (rs ++ [R])[i]? = some a → (rs ++ [R])[j]? = some a → i = j := by
  have key : ∀ (i : Nat) (a : Addr), (rs ++ [R])[i]? = some a → (i < rs.length ∧ rs[i]? = some a) ∨ (i = rs.length ∧ a = R) := by
    intro i a h
    by_cases c : i < rs.length
    · rw [List.getElem?_append_left c] at h
      exact .inl ⟨c, h⟩
    · rw [List.getElem?_append_right (by omega)] at h
      have := (List.getElem?_eq_some_iff.mp h).1
      have h5 : [R].length = 1 := rfl
      have e : i = rs.length := by omega
      subst e
      rw [Nat.sub_self] at h
      exact .inr ⟨rfl, (Option.some.inj h).symm⟩
  intro i j a h1 h2
  rcases key i a h1 with ⟨_, c⟩ | ⟨c, c'⟩ <;> rcases key j a h2 with ⟨_, d⟩ | ⟨d, d'⟩
  · exact inj i j a c d
  · exact absurd d' (n a (List.mem_of_getElem? c))
  · exact absurd c' (n a (List.mem_of_getElem? d))
  · omega
def spPlain : Sp := fun vs H Q _ => ∃ k : Nat, vs = [.int k] ∧ k ≤ 4 ∧ ∀ D rs H', Same H H' → H D = none → H' D = some (.lst (rs.map V.ref)) → (∀ a ∈ rs, H a = none) → RowsAt H' rs k (fun _ _ => 0) → Q (.ref D) H'
theorem k_plain_rows (D : Df K mg "plain_rows" s_plain_rows ["k"]) : Dn P w K mg base 1 "plain_rows" ["k"] spPlain := by
  refine D.ok fun f fd F => okG0 F sc_plain_rows (fun vs H Q E h => ?_) (fun cdv A outer s H vs Q E hr h => ⟨_, (pss_one (ps_ret (pe_lc (own := [("stage", 1)]) (g := gName 1) (tt := tYes) rfl sc_plain_rows.nd (pi_range1 (by rfl) B.range_ (pa_cons (pv 0) pa_nil)) (blkOk_by (own := [("stage", 1)]) (N := ["k", "stage"]) (sc := defScope s_plain_rows) (by decide +kernel)) (fun _ _ _ _ _ => (pg_name (i := 1) sc_plain_rows.nd rfl (Or.inl rfl))) (fun _ _ _ _ _ => pts_nil) (fun _ _ _ _ _ => (pe_op op_rep (pe_lst (pa_cons pe_int pa_nil)) (pe_op op_shlW pe_int (pe_op op_sub (pv 0) pe_int))))))), ?_⟩)
  · obtain ⟨k, rfl, _⟩ := h; rfl
  · obtain ⟨k, rfl, hk, q⟩ := h
    try walk_at "go"
    intro D hD
    have e5 : ((k : Nat) : Int).toNat = k := by omega
    rw [e5]
    refine lc_range (lo := 0) (n := k) (fun i H' => Kept (∃ rs : List Addr, Same H H' ∧ H' D = some (.lst (rs.map V.ref)) ∧ rs.length = i ∧ (∀ (i j : Nat) (a : Addr), rs[i]? = some a → rs[j]? = some a → i = j) ∧ ∀ a ∈ rs, H a = none ∧ H' a = some (.lst ((row k (fun _ _ => 0) 0).map V.int)))) ⟨[], same_new hD _, upd_same, rfl, fun i j a h => by simp at h, fun a h => absurd h List.not_mem_nil⟩ ?_ ?_
    · rintro i H2 hi ⟨rs, S2, hD2, hl, inj, hrs⟩
      have e1 : (k : Int) - 1 = ((k - 1 : Nat) : Int) := by omega
      have hsh : CShl 1 ((k : Int) - 1) := by rw [e1]; exact shl_ok (by omega)
      have eL : (1 : Int) * 2 ^ (((k : Nat) : Int) - 1).toNat = ((2 ^ (k - 1) : Nat) : Int) := by rw [Int.one_mul, e1, Int.toNat_natCast]; push_cast; rfl
      have e8 : 2 ^ (k - 1) ≤ 8 := (Nat.pow_le_pow_right (by decide) (by omega) : 2 ^ (k - 1) ≤ 2 ^ 3)
      have ul : (rs.map V.ref).length ≤ 16 := by rw [List.length_map]; omega
      try walk_at "go"
      intro P hP
      generalize eH3 : upd _ P _ = H3
      have SH3 := newS eH3 hP
      have oP := newO eH3
      try walk_at "go"
      rw [eL, Int.toNat_natCast]
      have eR : (List.replicate (2 ^ (k - 1)) [V.int 0]).flatten = (row k (fun _ _ => 0) 0).map V.int := flat_rep
      rw [eR]
      intro R hR
      generalize eH4 : upd _ R _ = H4
      have SH4 := newS eH4 hR
      have oR := newO eH4
      have hD4 := SH4 _ _ (SH3 _ _ hD2)
      have hRn : H R = none := none_back S2 (none_back SH3 hR)
      have nRD : R ≠ D := fun z => by subst z; rw [SH3 _ _ hD2] at hR; cases hR
      have nin : ∀ a ∈ rs, a ≠ R := fun a ha z => by have e9 := SH3 _ _ (hrs a ha).2; rw [z, hR] at e9; cases e9
      have nDr : ∀ a ∈ rs, a ≠ D := fun a ha z => by have e9 := (hrs a ha).1; have e8 := (hrs a ha).2; rw [z, hD2] at e8; exact ints_refs row_ne (Option.some.inj e8).symm
      try walk_at "go"
      refine ⟨⟨rs ++ [R], but_same hD (S2.trans (SH3.trans SH4)) But.upd, by rw [upd_same, List.map_append] <;> rfl, by rw [List.length_append, hl] <;> rfl, inj_snoc inj nin, fun a ha => ?_⟩⟩
      rcases List.mem_append.mp ha with c | c
      · exact ⟨(hrs a c).1, by rw [upd_ne (nDr a c)]; exact SH4 _ _ (SH3 _ _ (hrs a c).2)⟩
      · rw [List.mem_singleton.mp c]
        exact ⟨hRn, by rw [upd_ne nRD]; exact oR⟩
    · rintro H2 ⟨rs, S2, hD2, hl, inj, hrs⟩
      refine q D rs _ S2 hD hD2 (fun a ha => (hrs a ha).1) ⟨hl, inj, fun j a h => (hrs a (List.mem_of_getElem? h)).2⟩
def spAsSe (K : PySem.W.Frag) : Sp := fun vs H Q _ => ∃ (D : Addr) (rs : List Addr) (k : Nat) (c : Tbl), vs = [.ref D] ∧ k ≤ 4 ∧ H D = some (.lst (rs.map V.ref)) ∧ RowsAt H rs k c ∧ ∀ T H', Same H H' → SeAt H' T k c → Q (.ref T) H'
theorem k_as_settings (D : Df K mg "as_settings" s_as_settings ["rows"]) : Dn P w K mg base 1 "as_settings" ["rows"] (spAsSe K) := by
  refine D.ok fun f fd F => okG0 F sc_as_settings (fun vs H Q E h => ?_) (fun cdv A outer s H vs Q E hr h => ⟨_, (pss_one (ps_ret (pe_callTy (tupOfK (K := K)) (by rfl) B.tuple_ (by decide +kernel) (pa_cons (pe_lc (own := [("row", 1)]) (g := gName 1) (tt := tYes) rfl sc_as_settings.nd (kk (K := K) (F := fun K => iList K _) (P := PI _ _ _) (pi_list (pv 0))) (blkOk_by (own := [("row", 1)]) (N := ["rows", "row"]) (sc := defScope s_as_settings) (by decide +kernel)) (fun _ _ _ _ _ => (pg_name (i := 1) sc_as_settings.nd rfl (Or.inl rfl))) (fun _ _ _ _ _ => pts_nil) (fun _ _ _ _ _ => (pe_callTy (tupOfK (K := K)) (by rfl) B.tuple_ (by decide +kernel) (pa_cons (pv 1) pa_nil)))) pa_nil)))), ?_⟩)
  · obtain ⟨D, rs, k, c, rfl, _⟩ := h; rfl
  · obtain ⟨D, rs, k, c, rfl, hk, hD, hR, q⟩ := h
    have hrl := hR.len
    try walk_at "go"
    intro E hE
    refine lc_list (K := K) (a := D) (xs := rs.map V.ref) (fun i H' => Kept (∃ us : List Addr, Same H H' ∧ H' E = some (.lst (us.map V.ref)) ∧ us.length = i ∧ ∀ (j : Nat) (a : Addr), us[j]? = some a → H' a = some (.tup ((row k c j).map V.int)))) ⟨[], same_new hE _, upd_same, rfl, fun j a h => by simp at h⟩ (fun i H' _ h => by obtain ⟨us, S, _⟩ := h.ex; exact SqL.of (S _ _ hD)) ?_ ?_
    · rintro i x H2 hx ⟨us, S2, hE2, hul, hus⟩
      rw [List.getElem?_map] at hx
      obtain ⟨r, hr, rfl⟩ := Option.map_eq_some_iff.mp hx
      have hi : i < 4 := by have := (List.getElem?_eq_some_iff.mp hr).1; omega
      have hr2 := S2 _ _ (hR.at_ i r hr)
      have ul : (us.map V.ref).length ≤ 16 := by rw [List.length_map]; omega
      try walk_at "go"
      intro U hU
      generalize eH3 : upd _ U _ = H3
      have SH3 := newS eH3 hU
      have oU := newO eH3
      have hE3 := SH3 _ _ hE2
      try walk_at "go"
      refine ⟨⟨us ++ [U], but_same hE (S2.trans SH3) But.upd, by rw [upd_same, List.map_append] <;> rfl, by rw [List.length_append, hul] <;> rfl, fun j a ha => ?_⟩⟩
      have tk : ∀ r xs, H3 r = some (.tup xs) → upd H3 E (.lst (us.map V.ref ++ [.ref U])) r = some (.tup xs) := fun r xs e => by rw [upd_ne (ne_of e hE3 (by intro z; cases z))]; exact e
      by_cases cc : j < us.length
      · rw [List.getElem?_append_left cc] at ha
        exact tk _ _ (SH3 _ _ (hus j a ha))
      · rw [List.getElem?_append_right (by omega)] at ha
        have hj : j = i := by
          have := (List.getElem?_eq_some_iff.mp ha).1
          have h5 : [U].length = 1 := rfl
          omega
        subst hj
        rw [hul, Nat.sub_self] at ha
        cases (Option.some.inj ha)
        exact tk _ _ oU
    · rintro H2 ⟨us, S2, hE2, hul, hus⟩
      rw [List.length_map, hrl] at hul
      try walk_at "go"
      intro U hU
      generalize eH3 : upd _ U _ = H3
      have SH3 := newS eH3 hU
      have oU := newO eH3
      exact q U _ (S2.trans SH3) ⟨us, oU, hul, fun j a h => SH3 _ _ (hus j a h)⟩
def spLedF (K : PySem.W.Frag) : Sp := fun vs H Q _ => ∃ (k : Nat) (T : Addr) (s : Tbl) (h : Nat), vs = [.int k, .ref T, .int h] ∧ k ≤ 4 ∧ SeAt H T k s ∧ Bt s ∧ h < 2 ^ k ∧ Q (.int (la k s h k : Nat)) H
theorem k_led_from (D : Df K mg "led_from" s_led_from ["k", "settings", "hand"]) (D_number_without : Dn P w K mg base 1 "number_without" ["k", "line", "stage"] spNwo) : Dn P w K mg base 2 "led_from" ["k", "settings", "hand"] (spLedF K) := by
  refine D.ok fun f fd F => okG0 F sc_led_from (fun vs H Q E h => ?_) (fun cdv A outer s H vs Q E hr h => ⟨_, (pss_cons (ps_set (i := 3) sc_led_from.nd rfl (Or.inl rfl) (pv 2))
    (pss_cons (ps_for PassesOwn.never rfl (pi_range2 (by rfl) B.range_ (pa_cons pe_int (pa_cons (pe_op op_add (pv 0) pe_int) pa_nil))) (pg_name (i := 4) sc_led_from.nd rfl (Or.inl rfl))
      (pss_one (ps_set (i := 3) sc_led_from.nd rfl (Or.inl rfl) (pe_op op_xor (pv 3) (pe_op op_shlW (pe_ix (kk (K := K) (F := rIxT) (P := IxR _) ix_tup) (pe_ix (kk (K := K) (F := rIxT) (P := IxR _) ix_tup) (pv 1) (pe_op op_sub (pv 4) pe_int) (fun _ _ => rfl)) (pe_cD D_number_without (hr.less (by decide)) rfl (pa_cons (pv 0) (pa_cons (pv 3) (pa_cons (pv 4) pa_nil)))) (fun _ _ => rfl)) (pe_op op_sub (pv 0) (pv 4)))))))
    (pss_one (ps_ret (pv 3))))), ?_⟩)
  · obtain ⟨k, T, s, x, rfl, _⟩ := h; rfl
  · obtain ⟨k, T, s, x, rfl, hk, hS, hb, hx, q⟩ := h
    try walk_at "go"
    have e5 : (((k : Nat) : Int) + 1 - 1).toNat = k := by omega
    rw [e5]
    refine for_range (lo := 1) (n := k) (fun j σ H' => ∃ v4, σ = [some (.int (k : Nat)), some (.ref T), some (.int (x : Nat)), some (.int (la k s x j : Nat)), v4] ∧ H' = H) ⟨_, rfl, rfl⟩ ?_ ?_
    · rintro j σ H2 hj ⟨v4, rfl, rfl⟩
      have ej : (1 : Int) + (j : Int) = ((j + 1 : Nat) : Int) := by omega
      rw [ej]
      have li := la_in (by omega : k < 5) hb hx j (by omega)
      have ni := nwo_in k (by omega) _ li j hj
      have en : nwo k (la k s x j) (j + 1) = ((nwo k (la k s x j) (j + 1)).toNat : Nat) := by omega
      have nl : (nwo k (la k s x j) (j + 1)).toNat < 2 ^ (k - 1) := by
        have e : ((2 ^ (k - 1) : Nat) : Int) = 2 ^ (k - 1) := by push_cast; rfl
        omega
      obtain ⟨as, r, g1, g2, g3, g4⟩ := hS.get hj nl
      rw [← en] at g4
      have g2' : atI (as.map V.ref) (((j + 1 : Nat) : Int) - 1) = some (.ref r) := by rw [show ((j + 1 : Nat) : Int) - 1 = (j : Int) by omega]; exact g2
      have hbs := bit_shl hk hj (hb j (nwo k (la k s x j) (j + 1)).toNat)
      have sb := stp_bit (by omega : k < 5) li hj (hb j (nwo k (la k s x j) (j + 1)).toNat)
      try walk_at "go"
      refine ⟨?_, rfl⟩
      rw [show ((la k s x (j + 1) : Nat) : Int) = stp k (la k s x j : Nat) (j + 1) (s j (nwo k (la k s x j) (j + 1)).toNat) from Int.toNat_of_nonneg sb.1] <;> rfl
    · rintro σ H2 ⟨v4, rfl, eH⟩
      cases eH
      try walk_at "go"
      exact q
def spLedP (K : PySem.W.Frag) : Sp := fun vs H Q _ => ∃ (k : Nat) (T : Addr) (s : Tbl), vs = [.int k, .ref T] ∧ k ≤ 4 ∧ SeAt H T k s ∧ Bt s ∧ ∀ U H', Same H H' → H' U = some (.tup (nV (sdl k fun h => la k s h k))) → Q (.ref U) H'
theorem k_led (D : Df K mg "led" s_led ["k", "settings"]) (D_want_net : DnD P w K mg base 3 "want_net" ["k", "deepest"] [.int 4] spWantNet) (D_want_settings : Dn P w K mg base 5 "want_settings" ["k", "thing"] (spWantSe K)) (D_led_from : Dn P w K mg base 2 "led_from" ["k", "settings", "hand"] (spLedF K)) : Dn P w K mg base 6 "led" ["k", "settings"] (spLedP K) := by
  refine D.ok fun f fd F => okG0 F sc_led (fun vs H Q E h => ?_) (fun cdv A outer s H vs Q E hr h => ⟨_, (pss_cons (ps_expr (pe_cDd D_want_net (hr.less (by decide)) rfl (pa_cons (pv 0) pa_nil)))
    (pss_cons (ps_expr (pe_cD D_want_settings (hr.less (by decide)) rfl (pa_cons (pv 0) (pa_cons (pv 1) pa_nil))))
    (pss_one (ps_ret (pe_callTy (tupOfK (K := K)) (by rfl) B.tuple_ (by decide +kernel) (pa_cons (pe_lc (own := [("hand", 2)]) (g := gName 2) (tt := tYes) rfl sc_led.nd (pi_range1 (by rfl) B.range_ (pa_cons (pe_op op_shlW pe_int (pv 0)) pa_nil)) (blkOk_by (own := [("hand", 2)]) (N := ["k", "settings", "hand"]) (sc := defScope s_led) (by decide +kernel)) (fun _ _ _ _ _ => (pg_name (i := 2) sc_led.nd rfl (Or.inl rfl))) (fun _ _ _ _ _ => pts_nil) (fun _ _ _ _ _ => (pe_cD D_led_from (hr.less (by decide)) rfl (pa_cons (pv 0) (pa_cons (pv 1) (pa_cons (pv 2) pa_nil)))))) pa_nil)))))), ?_⟩)
  · obtain ⟨k, T, s, rfl, _⟩ := h; rfl
  · obtain ⟨k, T, s, rfl, hk, hS, hb, q⟩ := h
    have hsh : CShl 1 (k : Int) := shl_ok (by omega)
    have eL : (1 : Int) * 2 ^ ((k : Nat) : Int).toNat = ((2 ^ k : Nat) : Int) := by rw [Int.one_mul, Int.toNat_natCast]; push_cast; rfl
    have e16 : 2 ^ k ≤ 16 := (Nat.pow_le_pow_right (by decide) hk : 2 ^ k ≤ 2 ^ 4)
    try walk_at "go"
    intro H1 S1
    try walk_at "go"
    intro D hD
    rw [eL, Int.toNat_natCast]
    refine lc_range (lo := 0) (n := 2 ^ k) (fun i H' => Same H1 H' ∧ H' D = some (.lst (nV ((List.range i).map fun h => la k s h k)))) ⟨same_new hD _, upd_same⟩ ?_ ?_
    · rintro i H2 hi ⟨S2, hD2⟩
      rw [Int.zero_add]
      have hS2 := hS.same (S1.trans S2)
      have ll : (nV ((List.range i).map fun h => la k s h k)).length ≤ 16 := by unfold nV; rw [List.length_map, List.length_map, List.length_range]; omega
      try walk_at "go"
      exact ⟨but_same hD S2 But.upd, by rw [upd_same, nV_snoc, List.range_succ, List.map_append] <;> rfl⟩
    · rintro H2 ⟨S2, hD2⟩
      try walk_at "go"
      intro U hU
      generalize eH3 : upd _ U _ = H3
      have SH3 := newS eH3 hU
      have oU := newO eH3
      exact q U _ (S1.trans (S2.trans SH3)) oU
def spWantSi (K : PySem.W.Frag) : Sp := fun vs H Q _ => ∃ (k : Nat) (T : Addr) (g : Nat → Nat), vs = [.int k, .ref T] ∧ k ≤ 4 ∧ H T = some (.tup (nV (sdl k g))) ∧ Gd k g ∧ ∀ H', Same H H' → Q .non H'
theorem k_want_sides (D : Df K mg "want_sides" s_want_sides ["k", "sides"]) (D_is_line : Dn P w K mg base 2 "is_line" ["k", "thing"] spIsLine) : Dn P w K mg base 3 "want_sides" ["k", "sides"] (spWantSi K) := by
  refine D.ok fun f fd F => okG0 F sc_want_sides (fun vs H Q E h => ?_) (fun cdv A outer s H vs Q E hr h => ⟨_, (pss_one (ps_if (PW.pt (pw_or (pt_not (pt_val (pe_callB (kk (K := K) (F := rIsi) (P := CallR _ _) call_isi) (by rfl) B.isinstance_ (by decide +kernel) (pa_cons (pv 1) (pa_cons (pe_bltn (v := .ty "tuple") (u := .type "tuple") (by rfl) B.tuple_ (by decide +kernel) rfl) pa_nil))))) (pw_or (pt_cmpR op_ne (pe_callB (lenK (K := K)) (by rfl) B.len_ (by decide +kernel) (pa_cons (pv 1) pa_nil)) (pe_op op_shlW pe_int (pv 0)) (nomark _)) (pw_or1 (pt_not (pt_val (pe_callB (kk (K := K) (F := rAll) (P := CallR _ _) (cr_all rfl)) (by rfl) B.all_ (by decide +kernel) (pa_cons (pe_lc (own := [("goal", 2)]) (g := gName 2) (tt := tYes) rfl sc_want_sides.nd (kk (K := K) (F := fun K => iTup K _) (P := PI _ _ _) (pi_tup (pv 1))) (blkOk_by (own := [("goal", 2)]) (N := ["k", "sides", "goal"]) (sc := defScope s_want_sides) (by decide +kernel)) (fun _ _ _ _ _ => (pg_name (i := 2) sc_want_sides.nd rfl (Or.inl rfl))) (fun _ _ _ _ _ => pts_nil) (fun _ _ _ _ _ => (pe_cD D_is_line (hr.less (by decide)) rfl (pa_cons (pv 0) (pa_cons (pv 2) pa_nil))))) pa_nil))))))))
     (pss_one ps_never)
     pss_nil)), ?_⟩)
  · obtain ⟨k, T, g, rfl, _⟩ := h; rfl
  · obtain ⟨k, T, g, rfl, hk, hT, hg, q⟩ := h
    have hsh : CShl 1 (k : Int) := shl_ok (by omega)
    have eL : (1 : Int) * 2 ^ ((k : Nat) : Int).toNat = ((2 ^ k : Nat) : Int) := by rw [Int.one_mul, Int.toNat_natCast]; push_cast; rfl
    have e16 : 2 ^ k ≤ 16 := (Nat.pow_le_pow_right (by decide) hk : 2 ^ k ≤ 2 ^ 4)
    have hl := sdl_len (k := k) (g := g)
    try walk_at "go"
    refine ite2 (fun c => ?_) (fun c => ?_)
    · have e9 : V.int ((nV (sdl k g)).length : Nat) = V.int ((1 : Int) * 2 ^ ((k : Nat) : Int).toNat) := by rw [hl, eL]
      rw [show decide (V.int ((nV (sdl k g)).length : Nat) = (fun i j : Int => V.int (i * 2 ^ j.toNat)) 1 (k : Int)) = true from decide_eq_true e9] at c
      exact absurd c (by decide)
    try walk_at "go"
    intro D hD
    refine lc_tup (K := K) (a := T) (xs := nV (sdl k g)) (fun i H' => Kept (Same H H' ∧ H' D = some (.lst ((List.replicate i true).map V.bl)))) ⟨same_new hD _, upd_same⟩ (fun i H' _ h => SqT.of (h.ex.1 _ _ hT)) ?_ ?_
    · rintro i x H' hx ⟨S1, hD1⟩
      obtain ⟨hi, rfl⟩ := sdl_at hx
      have gi := hg i hi
      try walk_at "go"
      exact ⟨⟨but_same hD S1 But.upd, by rw [upd_same]; exact congrArg (fun z => some (HO.lst z)) rep_snoc⟩⟩
    rintro H2 ⟨S2, hD2⟩
    try walk_at "go"
    rw [rep_all]
    exact q _ S2
def spSetBy (K : PySem.W.Frag) : Sp := fun vs H Q _ => ∃ (k : Nat) (T : Addr) (g : Nat → Nat), vs = [.int k, .ref T] ∧ k ≤ 4 ∧ H T = some (.tup (nV (sdl k g))) ∧ Gd k g ∧ Ap k g ∧ ∀ U c H', Same H H' → SeAt H' U k c → Bt c → (∀ h, h < 2 ^ k → la k c h k = g h) → Q (.ref U) H'
theorem k_settings_by (D : Df K mg "settings_by" s_settings_by ["k", "sides"]) (D_plain_rows : Dn P w K mg base 1 "plain_rows" ["k"] spPlain) (D_figure_in : Dn P w K mg base 1 "figure_in" ["k", "line", "stage"] spFig) (D_number_without : Dn P w K mg base 1 "number_without" ["k", "line", "stage"] spNwo) (D_as_settings : Dn P w K mg base 1 "as_settings" ["rows"] (spAsSe K)) : Dn P w K mg base 3 "settings_by" ["k", "sides"] (spSetBy K) := by
  refine D.ok fun f fd F => okG0 F sc_settings_by (fun vs H Q E h => ?_) (fun cdv A outer s H vs Q E hr h => ⟨_, (pss_cons (ps_set (i := 2) sc_settings_by.nd rfl (Or.inl rfl) (pe_cD D_plain_rows (hr.less (by decide)) rfl (pa_cons (pv 0) pa_nil)))
    (pss_cons (ps_for PassesOwn.never rfl (kk (K := K) (F := fun K => iEnumT K _) (P := PI _ _ _) (pi_enumT (by rfl) B.enumerate_ (pa_cons (pv 1) pa_nil))) (kk (K := K) (F := fun K => gTup K 2 _) (P := PG _ _) (pg_tup rfl (pgs_cons (pg_name (i := 3) sc_settings_by.nd rfl (Or.inl rfl)) (pgs_cons (pg_name (i := 4) sc_settings_by.nd rfl (Or.inl rfl)) pgs_nil))))
      (pss_cons (ps_set (i := 5) sc_settings_by.nd rfl (Or.inl rfl) (pv 3))
      (pss_one (ps_for PassesOwn.never rfl (pi_range2 (by rfl) B.range_ (pa_cons pe_int (pa_cons (pe_op op_add (pv 0) pe_int) pa_nil))) (pg_name (i := 6) sc_settings_by.nd rfl (Or.inl rfl))
       (pss_cons (ps_set (i := 7) sc_settings_by.nd rfl (Or.inl rfl) (pe_op op_xor (pe_cD D_figure_in (hr.less (by decide)) rfl (pa_cons (pv 0) (pa_cons (pv 3) (pa_cons (pv 6) pa_nil)))) (pe_cD D_figure_in (hr.less (by decide)) rfl (pa_cons (pv 0) (pa_cons (pv 4) (pa_cons (pv 6) pa_nil))))))
       (pss_cons (ps_asg (pv 7) (pg_sub (pe_ix (kk (K := K) (F := rIxL) (P := IxR _) ix_list) (pv 2) (pe_op op_sub (pv 6) pe_int) (fun _ _ => rfl)) (pe_cD D_number_without (hr.less (by decide)) rfl (pa_cons (pv 0) (pa_cons (pv 5) (pa_cons (pv 6) pa_nil)))) set_list))
       (pss_one (ps_set (i := 5) sc_settings_by.nd rfl (Or.inl rfl) (pe_op op_xor (pv 5) (pe_op op_shlW (pv 7) (pe_op op_sub (pv 0) (pv 6))))))))))))
    (pss_one (ps_ret (pe_cD D_as_settings (hr.less (by decide)) rfl (pa_cons (pv 2) pa_nil)))))), ?_⟩)
  · obtain ⟨k, T, g, rfl, _⟩ := h; rfl
  · obtain ⟨k, T, g, rfl, hk, hT, hg, ap, q⟩ := h
    try walk_at "go"
    intro D rs H1 S1 hDn hD hfr hR
    have hT1 := S1 _ _ hT
    try walk_at "go"
    refine for_enumT (K := K) (a := T) (xs := nV (sdl k g)) (fun i σ H' => Kept (∃ v3 v4 v5 v6 v7 c, σ = [some (.int (k : Nat)), some (.ref T), some (.ref D), v3, v4, v5, v6, v7] ∧ Same H H' ∧ H' D = some (.lst (rs.map V.ref)) ∧ RowsAt H' rs k c ∧ Bt c ∧ Wd k g i 0 c)) ⟨_, _, _, _, _, fun _ _ => 0, rfl, S1, hD, hR, fun _ _ => .inl rfl, Wd.zero⟩ (fun i σ H' _ h => by obtain ⟨_, _, _, _, _, _, _, S, _⟩ := h.ex; exact SqT.of (S _ _ hT)) ?_ ?_
    · rintro i y P σ H2 hi ⟨v3, v4, v5, v6, v7, c, rfl, S2, hD2, hR2, hb2, hw2⟩ hP
      obtain ⟨hik, rfl⟩ := sdl_at hi
      have gi := hg i hik
      generalize eH3 : upd _ P (HO.tup [.int (i : Nat), .int (g i : Nat)]) = H3
      have SH3 := newS eH3 hP
      have oP := newO eH3
      try walk_at "go"
      have e5 : (((k : Nat) : Int) + 1 - 1).toNat = k := by omega
      rw [e5]
      refine for_range (lo := 1) (n := k) (fun j σ H' => Kept (∃ v6 v7 c, ∃ l : Nat, σ = [some (.int (k : Nat)), some (.ref T), some (.ref D), some (.int (i : Nat)), some (.int (g i : Nat)), some (.int (l : Nat)), v6, v7] ∧ Same H H' ∧ H' D = some (.lst (rs.map V.ref)) ∧ RowsAt H' rs k c ∧ Bt c ∧ Wd k g i j c ∧ (l : Int) = low k i (g i) j)) ⟨_, _, c, i, rfl, S2.trans SH3, SH3 _ _ hD2, hR2.same SH3, hb2, hw2, (low_zero k (by omega) i hik (g i) gi).symm⟩ ?_ ?_
      · rintro j σ H4 hj ⟨v6, v7, c, l, rfl, S4, hD4, hR4, hb4, hw4, el⟩
        have ej : (1 : Int) + (j : Int) = ((j + 1 : Nat) : Int) := by omega
        rw [ej]
        have l1 := low_nat (by omega : k < 5) hik gi (show j ≤ k by omega)
        have l2 := low_nat (by omega : k < 5) hik gi (show j + 1 ≤ k by omega)
        have st := low_step k (by omega) i hik (g i) gi j hj
        have cb := crs_bit (by omega : k < 5) hik gi hj
        have ws := hw4.step (by omega : k < 5) hg ap hik hj
        have elt : (low k i (g i) j).toNat = l := by omega
        rw [elt] at ws
        have li : l < 2 ^ k := by omega
        have ni := nwo_in k (by omega) l li j hj
        have nl : (nwo k l (j + 1)).toNat < 2 ^ (k - 1) := by
          have e : ((2 ^ (k - 1) : Nat) : Int) = 2 ^ (k - 1) := by push_cast; rfl
          omega
        have hjr : j < rs.length := by rw [hR4.len]; exact hj
        obtain ⟨r, er⟩ : ∃ r, rs[j]? = some r := ⟨_, List.getElem?_eq_getElem hjr⟩
        have hr := hR4.at_ j _ er
        have g2 : atI (rs.map V.ref) (((j + 1 : Nat) : Int) - 1) = some (.ref r) := by rw [show ((j + 1 : Nat) : Int) - 1 = (j : Int) by omega]; exact atI_nat (by rw [List.getElem?_map, er] <;> rfl)
        have hix : ixN ((row k c j).map V.int).length (nwo k l (j + 1)) = some (nwo k l (j + 1)).toNat := by
          rw [show nwo k l (j + 1) = ((nwo k l (j + 1)).toNat : Nat) by omega]
          rw [Int.toNat_natCast]
          exact ixn (by rw [List.length_map, row_len]; exact nl)
        have hbs := bit_shl hk hj cb
        have hfrj := hfr _ (List.mem_of_getElem? er)
        generalize hcr : crs k i (g i) j = cr at *
        have hcr2 : Builtin.bitXor (fg k i (j + 1)) (fg k (g i) (j + 1)) = cr := hcr
        rw [hcr2] at st
        try walk_at "go"
        have e12 : (fun i j : Int => V.int (Builtin.bitXor i j)) (fg k i (j + 1)) (fg k (g i) (j + 1)) = V.int cr := congrArg V.int hcr2
        rw [e12, hcr2]
        generalize eH5 : upd H4 r (HO.lst (((row k c j).map V.int).set (nwo k l (j + 1)).toNat (.int cr))) = H5
        have BH5 : But r H4 H5 := eH5 ▸ But.upd
        have oH5 : H5 r = some (HO.lst (((row k c j).map V.int).set (nwo k l (j + 1)).toNat (.int cr))) := eH5 ▸ upd_same
        have nrD : r ≠ D := fun z => by have e8 := hr; rw [z, hD4] at e8; exact ints_refs row_ne (Option.some.inj e8).symm
        have hD5 := BH5 _ _ (Ne.symm nrD) hD4
        have hR5 := hR4.upd er BH5 oH5 nl
        have S5 : Same H H5 := fun b o h => BH5 _ _ (ne_of_none h hfrj) (S4 _ _ h)
        have hl5 : ((low k i (g i) (j + 1)).toNat : Int) = low k i (g i) (j + 1) := l2.1.symm
        try walk_at "go"
        refine ⟨⟨some (.int ((j + 1 : Nat) : Int)), some (.int cr), wr c j (nwo k l (j + 1)).toNat cr, (low k i (g i) (j + 1)).toNat, ?_, S5, hD5, hR5, wr_bit hb4 cb, ws, hl5⟩⟩
        rw [hl5, st, ← el] <;> rfl
      · rintro σ H4 ⟨v6, v7, c, l, rfl, S4, hD4, hR4, hb4, hw4, el⟩
        exact ⟨⟨_, _, _, _, _, c, rfl, S4, hD4, hR4, hb4, hw4.next⟩⟩
    · rintro σ H2 ⟨v3, v4, v5, v6, v7, c, rfl, S2, hD2, hR2, hb2, hw2⟩
      rw [sdl_len] at hw2
      try walk_at "go"
      intro U H3 S3 hU
      exact q U c _ (S2.trans S3) hU hb2 (hw2.fin (by omega) hg)
/-- what settings_for tells -/
def ToldC (H : Hp) (k : Nat) (g : Nat → Nat) (U : Addr) : Prop := ∃ (X : Addr) (r : Nat × Int), Fst (lns k (prs k g)) k (some r) ∧ H U = some (.tup [.str "clash", .ref X]) ∧ H X = some (.tup [.int (r.1 : Nat), .int r.2])
def ToldS (H : Hp) (k : Nat) (g : Nat → Nat) (U : Addr) : Prop := ∃ (X : Addr) (c : Tbl), Ap k g ∧ H U = some (.tup [.str "settings", .ref X]) ∧ SeAt H X k c ∧ Bt c ∧ ∀ h, h < 2 ^ k → la k c h k = g h
def spSetFor (K : PySem.W.Frag) : Sp := fun vs H Q _ => ∃ (k : Nat) (T : Addr) (g : Nat → Nat), vs = [.int k, .ref T] ∧ k ≤ 4 ∧ H T = some (.tup (nV (sdl k g))) ∧ Gd k g ∧
  ∀ U H', Same H H' → ToldC H' k g U ∨ ToldS H' k g U → Q (.ref U) H'
theorem k_settings_for (D : Df K mg "settings_for" s_settings_for ["k", "sides"]) (D_want_net : DnD P w K mg base 3 "want_net" ["k", "deepest"] [.int 4] spWantNet) (D_want_sides : Dn P w K mg base 3 "want_sides" ["k", "sides"] (spWantSi K)) (D_shared_line : Dn P w K mg base 2 "shared_line" ["k", "pairs"] (spShared K)) (D_settings_by : Dn P w K mg base 3 "settings_by" ["k", "sides"] (spSetBy K)) : Dn P w K mg base 6 "settings_for" ["k", "sides"] (spSetFor K) := by
  refine D.ok fun f fd F => okG0 F sc_settings_for (fun vs H Q E h => ?_) (fun cdv A outer s H vs Q E hr h => ⟨_, (pss_cons (ps_expr (pe_cDd D_want_net (hr.less (by decide)) rfl (pa_cons (pv 0) pa_nil)))
    (pss_cons (ps_expr (pe_cD D_want_sides (hr.less (by decide)) rfl (pa_cons (pv 0) (pa_cons (pv 1) pa_nil))))
    (pss_cons (ps_set (i := 2) sc_settings_for.nd rfl (Or.inl rfl) (pe_cD D_shared_line (hr.less (by decide)) rfl (pa_cons (pv 0) (pa_cons (kk (K := K) (F := fun K => tTupEnT K _) (P := PE _ _) (pe_tupEnT rfl (by rfl) B.tuple_ (by rfl) B.enumerate_ (pa_cons (pv 1) pa_nil))) pa_nil))))
    (pss_cons (ps_if (pt_cmpR op_notN (pv 2) pe_non (nomark _))
      (pss_one (ps_ret (pe_tup (pa_cons pe_str (pa_cons (pv 2) pa_nil)))))
      pss_nil)
    (pss_one (ps_ret (pe_tup (pa_cons pe_str (pa_cons (pe_cD D_settings_by (hr.less (by decide)) rfl (pa_cons (pv 0) (pa_cons (pv 1) pa_nil))) pa_nil))))))))), ?_⟩)
  · obtain ⟨k, T, g, rfl, _⟩ := h; rfl
  · obtain ⟨k, T, g, rfl, hk, hT, hg, q⟩ := h
    try walk_at "go"
    intro H1 S1
    have hT1 := S1 _ _ hT
    have e16 : 2 ^ k ≤ 16 := (Nat.pow_le_pow_right (by decide) hk : 2 ^ k ≤ 2 ^ 4)
    have l100 : (nV (sdl k g)).length ≤ 1000 := by rw [sdl_len]; omega
    try walk_at "go"
    intro P ts H2 S2 hPn hP hl hx
    have hP2 : PrT H2 k P ts (prs k g) := by
      refine ⟨hP, ⟨by rw [hl, sdl_len]; unfold prs; rw [List.length_map, List.length_range], fun j t p ht hp => ?_⟩, fun p hp => ?_, by unfold prs; rw [List.length_map, List.length_range]; omega⟩
      · unfold prs at hp
        rw [List.getElem?_map] at hp
        obtain ⟨j', hj', rfl⟩ := Option.map_eq_some_iff.mp hp
        have hjl : j < 2 ^ k := by have := (List.getElem?_eq_some_iff.mp hj').1; rwa [List.length_range] at this
        rw [List.getElem?_range hjl] at hj'
        cases hj'
        refine hx j t _ ht ?_
        unfold nV sdl
        rw [List.getElem?_map, List.getElem?_map, List.getElem?_range hjl] <;> rfl
      · unfold prs at hp
        obtain ⟨j, hj, rfl⟩ := List.mem_map.mp hp
        exact ⟨List.mem_range.mp hj, hg j (List.mem_range.mp hj)⟩
    try walk_at "go"
    intro r v H3 fs S3 hv
    have hT3 := S3 _ _ (S2 _ _ hT1)
    cases r with
    | none =>
      have hv2 : v = .non := hv
      subst hv2
      have ap := ap_of (by omega : k < 5) hg fs
      try walk_at "go"
      intro X c H4 S4 hX hb hl4
      try walk_at "go"
      intro U hU
      generalize eH5 : upd _ U _ = H5
      have SH5 := newS eH5 hU
      have oU := newO eH5
      exact q U _ (S1.trans (S2.trans (S3.trans (S4.trans SH5)))) (.inr ⟨X, c, ap, oU, hX.same SH5, hb, hl4⟩)
    | some r =>
      obtain ⟨X, hv2, hX⟩ : ∃ U, v = .ref U ∧ H3 U = some (.tup [.int (r.1 : Nat), .int r.2]) := hv
      subst hv2
      try walk_at "go"
      intro U hU
      generalize eH5 : upd _ U _ = H5
      have SH5 := newS eH5 hU
      have oU := newO eH5
      exact q U _ (S1.trans (S2.trans (S3.trans SH5))) (.inl ⟨X, r, fs, oU, SH5 _ _ hX⟩)
/-! SPLIT -/
/-! ### the program: rounds -/
omit B in
theorem nwo_nat {k st l : Nat} (hk : k ≤ 4) (h1 : 1 ≤ st) (h2 : st ≤ k) (hl : l < 2 ^ k) : nwo k l st = ((nwo k l st).toNat : Nat) ∧ (nwo k l st).toNat < 2 ^ (k - 1) := by
  obtain ⟨s, rfl⟩ : ∃ s, st = s + 1 := ⟨st - 1, by omega⟩
  obtain ⟨a, b⟩ := nwo_in k (by omega) l hl s (by omega)
  have : (((2 ^ (k - 1) : Nat) : Int)) = 2 ^ (k - 1) := by push_cast; rfl
  exact ⟨by omega, by omega⟩
omit B in
theorem two_k16 {k : Nat} (h : k ≤ 4) : 2 ^ k ≤ 16 := (Nat.pow_le_pow_right (by decide) h : 2 ^ k ≤ 2 ^ 4)
omit B in
theorem shl_2k {k : Nat} : (1 : Int) * 2 ^ ((k : Nat) : Int).toNat = ((2 ^ k : Nat) : Int) := by rw [Int.one_mul, Int.toNat_natCast]; push_cast; rfl
def spCarry (K : PySem.W.Frag) (C : Addr) : Sp := fun vs H Q _ => ∃ (p dx da T : Addr) (h b : Int), vs = [.ref p, .int h, .int b, .ref da, .ref T] ∧ H p = some (.ins C dx []) ∧
  ∀ H', But p H H' → H' p = some (.ins C dx [("hand", .int h), ("box", .int b), ("deed", .ref da), ("parts", .ref T)]) → Q .non H'
theorem k_Carried____init__ (D : DfI K (cAt mg "Carried") "Carried.__init__" s_Carried____init__ ["self", "hand", "box", "deed", "parts"]) : DnI P w K mg base (cAt mg "Carried") 1 ["self", "hand", "box", "deed", "parts"] (spCarry K (cAt mg "Carried")) := by
  refine D.ok fun f fd F => okG0 F sc_Carried____init__ (fun vs H Q E h => ?_) (fun cdv A outer s H vs Q E hr h => ⟨_, (pss_cons (kk (K := K) (F := fun K => sFld K _ _ _) (P := PS _ _) (ps_fld (pv 0) (pv 1) rfl))
    (pss_cons (kk (K := K) (F := fun K => sFld K _ _ _) (P := PS _ _) (ps_fld (pv 0) (pv 2) rfl))
    (pss_cons (kk (K := K) (F := fun K => sFld K _ _ _) (P := PS _ _) (ps_fld (pv 0) (pv 3) rfl))
    (pss_one (kk (K := K) (F := fun K => sFld K _ _ _) (P := PS _ _) (ps_fld (pv 0) (pv 4) rfl)))))), ?_⟩)
  · obtain ⟨p, dx, da, T, x, b, rfl, _⟩ := h; rfl
  · obtain ⟨p, dx, da, T, x, b, rfl, hp, q⟩ := h
    have cl0 := B.Carried_.cl
    have n1 : NoAttr K (cAt mg "Carried") "hand" := B.Carried_.no _ (by decide +kernel)
    have n2 : NoAttr K (cAt mg "Carried") "box" := B.Carried_.no _ (by decide +kernel)
    have n3 : NoAttr K (cAt mg "Carried") "deed" := B.Carried_.no _ (by decide +kernel)
    have n4 : NoAttr K (cAt mg "Carried") "parts" := B.Carried_.no _ (by decide +kernel)
    have l0 : ([] : List (Str × V)).length < 1000 := by decide
    have kS : ∀ (f : Str) (v : V) (fs : List (Str × V)) (n : Nat), fs.length ≤ n → (putF f v fs).length ≤ n + 1 := fun f v fs n h => by have := length_putF f v fs; omega
    try walk_at "go"
    generalize eH1 : upd H p (HO.ins (cAt mg "Carried") dx (putF "hand" (.int x) [])) = H1
    have BH1 : But p H H1 := eH1 ▸ But.upd
    have oH1 : H1 p = some (HO.ins (cAt mg "Carried") dx (putF "hand" (.int x) [])) := eH1 ▸ upd_same
    have l1 : ((putF "hand" (.int x) []) : List (Str × V)).length < 1000 := Nat.lt_of_le_of_lt (kS _ _ _ 0 (Nat.le_refl 0)) (by decide)
    try walk_at "go"
    generalize eH2 : upd H1 p (HO.ins (cAt mg "Carried") dx (putF "box" (.int b) (putF "hand" (.int x) []))) = H2
    have BH2 : But p H1 H2 := eH2 ▸ But.upd
    have oH2 : H2 p = some (HO.ins (cAt mg "Carried") dx (putF "box" (.int b) (putF "hand" (.int x) []))) := eH2 ▸ upd_same
    have l2 : ((putF "box" (.int b) (putF "hand" (.int x) [])) : List (Str × V)).length < 1000 := Nat.lt_of_le_of_lt (kS _ _ _ 1 (kS _ _ _ 0 (Nat.le_refl 0))) (by decide)
    try walk_at "go"
    generalize eH3 : upd H2 p (HO.ins (cAt mg "Carried") dx (putF "deed" (.ref da) (putF "box" (.int b) (putF "hand" (.int x) [])))) = H3
    have BH3 : But p H2 H3 := eH3 ▸ But.upd
    have oH3 : H3 p = some (HO.ins (cAt mg "Carried") dx (putF "deed" (.ref da) (putF "box" (.int b) (putF "hand" (.int x) [])))) := eH3 ▸ upd_same
    have l3 : ((putF "deed" (.ref da) (putF "box" (.int b) (putF "hand" (.int x) []))) : List (Str × V)).length < 1000 := Nat.lt_of_le_of_lt (kS _ _ _ 2 (kS _ _ _ 1 (kS _ _ _ 0 (Nat.le_refl 0)))) (by decide)
    try walk_at "go"
    generalize eH4 : upd H3 p (HO.ins (cAt mg "Carried") dx (putF "parts" (.ref T) (putF "deed" (.ref da) (putF "box" (.int b) (putF "hand" (.int x) []))))) = H4
    have BH4 : But p H3 H4 := eH4 ▸ But.upd
    have oH4 : H4 p = some (HO.ins (cAt mg "Carried") dx (putF "parts" (.ref T) (putF "deed" (.ref da) (putF "box" (.int b) (putF "hand" (.int x) []))))) := eH4 ▸ upd_same
    exact q _ (BH1.trans (BH2.trans (BH3.trans BH4))) (oH4.trans rfl)
def spSide : Sp := fun vs H Q _ => ∃ (k b : Nat), vs = [.int k, .int b] ∧ k ≤ 4 ∧ Q (.int ((b % 2 ^ k : Nat) : Int)) H
theorem k_side_of_box (D : Df K mg "side_of_box" s_side_of_box ["k", "box"]) : Dn P w K mg base 1 "side_of_box" ["k", "box"] spSide := by
  refine D.ok fun f fd F => okG0 F sc_side_of_box (fun vs H Q E h => ?_) (fun cdv A outer s H vs Q E hr h => ⟨_, (pss_one (ps_ret (pe_op op_mod (pv 1) (pe_op op_shlW pe_int (pv 0))))), ?_⟩)
  · obtain ⟨k, b, rfl, _⟩ := h; rfl
  · obtain ⟨k, b, rfl, hk, q⟩ := h
    have sh : CShl 1 (k : Int) := shl_ok (by omega)
    try walk_at "go"
    rw [shl_2k]
    refine ⟨by have := Nat.two_pow_pos k; show (0 : Int) < ((2 ^ k : Nat) : Int); omega, ?_⟩
    exact q
def spLineOf (K : PySem.W.Frag) (C : Addr) : Sp := fun vs H Q _ => ∃ (k lv : Nat) (p : Addr) (c : Cr), vs = [.int k, .ref p, .int lv] ∧ k ≤ 4 ∧ lv ≤ k ∧ CrAt C H p c ∧ Q (.int (lnC k lv c)) H
theorem k_line_of (D : Df K mg "line_of" s_line_of ["k", "one", "level"]) (D_line_on_way : Dn P w K mg base 1 "line_on_way" ["k", "hand", "goal", "level"] spLow) (D_side_of_box : Dn P w K mg base 1 "side_of_box" ["k", "box"] spSide) : Dn P w K mg base 2 "line_of" ["k", "one", "level"] (spLineOf K (cAt mg "Carried")) := by
  refine D.ok fun f fd F => okG0 F sc_line_of (fun vs H Q E h => ?_) (fun cdv A outer s H vs Q E hr h => ⟨_, (pss_one (ps_ret (pe_cD D_line_on_way (hr.less (by decide)) rfl (pa_cons (pv 0) (pa_cons (kk (K := K) (F := fun K => tFld K _ _) (P := PE _ _) (pe_fld (pv 1) rfl)) (pa_cons (pe_cD D_side_of_box (hr.less (by decide)) rfl (pa_cons (pv 0) (pa_cons (kk (K := K) (F := fun K => tFld K _ _) (P := PE _ _) (pe_fld (pv 1) rfl)) pa_nil))) (pa_cons (pv 2) pa_nil))))))), ?_⟩)
  · obtain ⟨k, lv, p, c, rfl, _⟩ := h; rfl
  · obtain ⟨k, lv, p, c, rfl, hk, hl, hc, q⟩ := h
    obtain ⟨dx, da, T, top, _⟩ := hc.top
    have cl0 := B.Carried_.cl
    have n1 : NoAttr K (cAt mg "Carried") "hand" := B.Carried_.no _ (by decide +kernel)
    have n2 : NoAttr K (cAt mg "Carried") "box" := B.Carried_.no _ (by decide +kernel)
    have gl : c.box % 2 ^ k < 2 ^ k := goal_lt (c := c)
    try walk_at "go"
    exact q
omit B in
theorem vs3 {a b c : Int} {n : Nat} (e : b = n) : [V.int a, .int b, .int c] ++ [] = [V.int a, .int n, .int c] := by rw [e]; rfl
def spFirst (K : PySem.W.Frag) : Sp := fun vs H Q _ => ∃ (k st h g : Nat) (T : Addr) (s : Tbl), vs = [.int k, .int st, .int h, .int g, .ref T] ∧ k ≤ 4 ∧ 1 ≤ st ∧ st ≤ k ∧ h < 2 ^ k ∧ g < 2 ^ k ∧ SeAt H T k s ∧ Q (.bl (cf k st s h g)) H
theorem k_comes_first (D : Df K mg "comes_first" s_comes_first ["k", "stage", "hand", "goal", "firsts"]) (D_figure_in : Dn P w K mg base 1 "figure_in" ["k", "line", "stage"] spFig) (D_number_without : Dn P w K mg base 1 "number_without" ["k", "line", "stage"] spNwo) (D_line_on_way : Dn P w K mg base 1 "line_on_way" ["k", "hand", "goal", "level"] spLow) : Dn P w K mg base 2 "comes_first" ["k", "stage", "hand", "goal", "firsts"] (spFirst K) := by
  refine D.ok fun f fd F => okG0 F sc_comes_first (fun vs H Q E h => ?_) (fun cdv A outer s H vs Q E hr h => ⟨_, (pss_cons (ps_set (i := 5) sc_comes_first.nd rfl (Or.inl rfl) (pe_cD D_number_without (hr.less (by decide)) rfl (pa_cons (pv 0) (pa_cons (pe_cD D_line_on_way (hr.less (by decide)) rfl (pa_cons (pv 0) (pa_cons (pv 2) (pa_cons (pv 3) (pa_cons (pv 1) pa_nil))))) (pa_cons (pv 1) pa_nil)))))
    (pss_one (ps_ret (pe_cmpR op_eq (pe_cD D_figure_in (hr.less (by decide)) rfl (pa_cons (pv 0) (pa_cons (pv 2) (pa_cons (pv 1) pa_nil)))) (pe_ix (kk (K := K) (F := rIxT) (P := IxR _) ix_tup) (pe_ix (kk (K := K) (F := rIxT) (P := IxR _) ix_tup) (pv 4) (pe_op op_sub (pv 1) pe_int) (fun _ _ => rfl)) (pv 5) (fun _ _ => rfl)) (nomark _))))), ?_⟩)
  · obtain ⟨k, st, x, g, T, s, rfl, _⟩ := h; rfl
  · obtain ⟨k, st, x, g, T, s, rfl, hk, h1, h2, hx, hg, hS, q⟩ := h
    obtain ⟨e1, e2⟩ := low_nat (k := k) (h := x) (g := g) (j := st) (by omega) hx hg h2
    obtain ⟨e3, e4⟩ := nwo_nat (k := k) (st := st) (l := (low k x g st).toNat) hk h1 h2 e2
    obtain ⟨as, r, g1, g2, g3, g4⟩ := hS.get (j := st - 1) (n := (nwo k (low k x g st).toNat st).toNat) (by omega) e4
    try walk_at "go"
    refine ⟨vs3 e1, hk, h2, e2, ?_⟩
    rw [e3]
    have i1 : ((st : Int) - 1) = ((st - 1 : Nat) : Int) := by omega
    rw [← i1] at g2
    try walk_at "go"
    have ed : decide (V.int (fg k x st) = V.int (s (st - 1) (nwo k (low k x g st).toNat st).toNat)) = cf k st s x g := by
      unfold cf
      by_cases c : fg k x st = s (st - 1) (nwo k (low k x g st).toNat st).toNat
      · rw [decide_eq_true (congrArg V.int c), decide_eq_true c]
      · rw [decide_eq_false fun z => c (V.int.inj z), decide_eq_false c]
    rw [ed]
    exact q
def spTurn (K : PySem.W.Frag) (C : Addr) : Sp := fun vs H Q _ => ∃ (k st nb : Nat) (R T : Addr) (L : List (Addr × Cr)) (s : Tbl), vs = [.int k, .int st, .ref R, .ref T] ∧ k ≤ 4 ∧ 1 ≤ st ∧ st ≤ k ∧ H R = some (.lst (L.map fun x => .ref x.1)) ∧ CrsAt C H L ∧ (∀ x ∈ L, x.2.In k nb) ∧ L.length ≤ 40 ∧ SeAt H T k s ∧
  ∀ (R' : Addr) (L' : List (Addr × Cr)) H', Same H H' → H R' = none → H' R' = some (.lst (L'.map fun x => V.ref x.1)) → L'.map (fun x => x.2) = turn k st s (L.map fun x => x.2) → (∀ x ∈ L', x ∈ L) → Q (.ref R') H'
theorem k_in_turn (D : Df K mg "in_turn" s_in_turn ["k", "stage", "row", "firsts"]) (D_comes_first : Dn P w K mg base 2 "comes_first" ["k", "stage", "hand", "goal", "firsts"] (spFirst K)) (D_side_of_box : Dn P w K mg base 1 "side_of_box" ["k", "box"] spSide) : Dn P w K mg base 3 "in_turn" ["k", "stage", "row", "firsts"] (spTurn K (cAt mg "Carried")) := by
  refine D.ok fun f fd F => okG0 F sc_in_turn (fun vs H Q E h => ?_) (fun cdv A outer s H vs Q E hr h => ⟨_, (pss_cons (ps_set (i := 4) sc_in_turn.nd rfl (Or.inl rfl) (pe_lst pa_nil))
    (pss_cons (ps_set (i := 5) sc_in_turn.nd rfl (Or.inl rfl) (pe_lst pa_nil))
    (pss_cons (ps_for PassesOwn.never rfl (kk (K := K) (F := fun K => iList K _) (P := PI _ _ _) (pi_list (pv 2))) (pg_name (i := 6) sc_in_turn.nd rfl (Or.inl rfl))
      (pss_one (ps_if (pt_val (pe_cD D_comes_first (hr.less (by decide)) rfl (pa_cons (pv 0) (pa_cons (pv 1) (pa_cons (kk (K := K) (F := fun K => tFld K _ _) (P := PE _ _) (pe_fld (pv 6) rfl)) (pa_cons (pe_cD D_side_of_box (hr.less (by decide)) rfl (pa_cons (pv 0) (pa_cons (kk (K := K) (F := fun K => tFld K _ _) (P := PE _ _) (pe_fld (pv 6) rfl)) pa_nil))) (pa_cons (pv 3) pa_nil)))))))
       (pss_one (ps_expr (kk (K := K) (F := fun K => tBM K "list" _ _ _) (P := PE _ _) (pe_bm PySem.F.plainAttrs_list PySem.F.slot_list_append PySem.F.type_list_append mt_append (pv 4) (pa_cons (pv 6) pa_nil)))))
       (pss_one (ps_expr (kk (K := K) (F := fun K => tBM K "list" _ _ _) (P := PE _ _) (pe_bm PySem.F.plainAttrs_list PySem.F.slot_list_append PySem.F.type_list_append mt_append (pv 5) (pa_cons (pv 6) pa_nil))))))))
    (pss_one (ps_ret (pe_op op_cat (pv 4) (pv 5))))))), ?_⟩)
  · obtain ⟨k, st, nb, R, T, L, s, rfl, _⟩ := h; rfl
  · obtain ⟨k, st, nb, R, T, L, s, rfl, hk, h1, h2, hR, hL, hin, h40, hS, q⟩ := h
    have cl0 := B.Carried_.cl
    have n1 : NoAttr K (cAt mg "Carried") "hand" := B.Carried_.no _ (by decide +kernel)
    have n2 : NoAttr K (cAt mg "Carried") "box" := B.Carried_.no _ (by decide +kernel)
    try walk_at "go"
    intro A hA
    generalize eH1 : upd _ A _ = H1
    have SH1 := newS eH1 hA
    have oA := newO eH1
    try walk_at "go"
    intro Z hZ
    generalize eH2 : upd _ Z _ = H2
    have SH2 := newS eH2 hZ
    have oZ := newO eH2
    have nAZ : A ≠ Z := ne_of_none oA hZ
    have hZn : H Z = none := none_back SH1 hZ
    have oA2 := SH2 _ _ oA
    have hR2 := (SH1.trans SH2) _ _ hR
    try walk_at "go"
    refine for_list (K := K) (a := R) (xs := L.map fun x => V.ref x.1) (fun i σ H' => Kept (∃ w6 : Option V, σ = [some (.int (k : Nat)), some (.int (st : Nat)), some (.ref R), some (.ref T), some (.ref A), some (.ref Z), w6] ∧ Same H H' ∧ H' A = some (.lst (((L.take i).filter fun x => cf k st s x.2.hand (goal k x.2)).map fun x => V.ref x.1)) ∧ H' Z = some (.lst (((L.take i).filter fun x => !cf k st s x.2.hand (goal k x.2)).map fun x => V.ref x.1)))) ⟨_, rfl, SH1.trans SH2, oA2, oZ⟩ (fun i σ H' _ h => by obtain ⟨_, _, b, _⟩ := h.ex; exact SqL.of (b _ _ hR)) ?_ ?_
    · rintro i x σ H3 hx ⟨w6, rfl, S3, hA3, hZ3⟩
      rw [List.getElem?_map] at hx
      obtain ⟨⟨a, c⟩, ha, rfl⟩ := Option.map_eq_some_iff.mp hx
      have hi : i < L.length := (List.getElem?_eq_some_iff.mp ha).1
      have aM := List.mem_of_getElem? ha
      obtain ⟨dx, da, T', top, _⟩ := (hL _ aM).top
      have top3 := S3 _ _ top
      obtain ⟨hh, hb⟩ := (hin _ aM).hd
      have gl : c.box % 2 ^ k < 2 ^ k := goal_lt (c := c)
      have hS3 := hS.same S3
      have l1 : (((L.take i).filter fun x => cf k st s x.2.hand (goal k x.2)).map fun x => V.ref x.1).length ≤ 100 := by
        have := List.length_filter_le (fun x : Addr × Cr => cf k st s x.2.hand (goal k x.2)) (L.take i)
        rw [List.length_take] at this
        rw [List.length_map]
        omega
      have l2 : (((L.take i).filter fun x => !cf k st s x.2.hand (goal k x.2)).map fun x => V.ref x.1).length ≤ 100 := by
        have := List.length_filter_le (fun x : Addr × Cr => !cf k st s x.2.hand (goal k x.2)) (L.take i)
        rw [List.length_take] at this
        rw [List.length_map]
        omega
      have tk := take_snoc ha
      try walk_at "go"
      have e9 : cf k st s c.hand (c.box % 2 ^ k) = cf k st s c.hand (goal k c) := rfl
      rw [e9]
      cases ec : cf k st s c.hand (goal k c) with
      | true =>
        refine ifT rfl ?_
        try walk_at "go"
        refine ⟨⟨_, rfl, but_same hA S3 But.upd, ?_, ?_⟩⟩
        · rw [upd_same, tk, List.filter_append, List.map_append]
          have : [(a, c)].filter (fun x : Addr × Cr => cf k st s x.2.hand (goal k x.2)) = [(a, c)] := by rw [List.filter_cons, ec] <;> rfl
          rw [this] <;> rfl
        · have : [(a, c)].filter (fun x : Addr × Cr => !cf k st s x.2.hand (goal k x.2)) = [] := by rw [List.filter_cons, ec] <;> rfl
          rw [upd_ne nAZ.symm, hZ3, tk, List.filter_append, this, List.append_nil]
      | false =>
        refine ifF rfl ?_
        try walk_at "go"
        refine ⟨⟨_, rfl, but_same hZn S3 But.upd, ?_, ?_⟩⟩
        · have : [(a, c)].filter (fun x : Addr × Cr => cf k st s x.2.hand (goal k x.2)) = [] := by rw [List.filter_cons, ec] <;> rfl
          rw [upd_ne nAZ, hA3, tk, List.filter_append, this, List.append_nil]
        · rw [upd_same, tk, List.filter_append, List.map_append]
          have : [(a, c)].filter (fun x : Addr × Cr => !cf k st s x.2.hand (goal k x.2)) = [(a, c)] := by rw [List.filter_cons, ec] <;> rfl
          rw [this] <;> rfl
    rintro σ H3 ⟨w6, rfl, S3, hA3, hZ3⟩
    rw [List.length_map, List.take_length] at hA3 hZ3
    have f2 := filt2 (fun x : Addr × Cr => cf k st s x.2.hand (goal k x.2)) L
    have lc : ((L.filter fun x => cf k st s x.2.hand (goal k x.2)).map fun x => V.ref x.1).length + ((L.filter fun x => !cf k st s x.2.hand (goal k x.2)).map fun x => V.ref x.1).length ≤ 40 := by rw [List.length_map, List.length_map]; omega
    try walk_at "go"
    intro W hW
    generalize eH4 : upd _ W _ = H4
    have SH4 := newS eH4 hW
    have oW := newO eH4
    refine q W ((L.filter fun x => cf k st s x.2.hand (goal k x.2)) ++ L.filter fun x => !cf k st s x.2.hand (goal k x.2)) H4 (S3.trans SH4) (none_back S3 hW) (by rw [oW, List.map_append]) ?_ fun x hx => ?_
    · unfold turn
      rw [List.map_append, List.filter_map, List.filter_map] <;> rfl
    · rcases List.mem_append.mp hx with z | z
      · exact (List.mem_filter.mp z).1
      · exact (List.mem_filter.mp z).1
def spJoin (K : PySem.W.Frag) (C : Addr) : Sp := fun vs H Q _ => ∃ (p r : Addr) (a b : Cr), vs = [.ref p, .ref r] ∧ CrAt C H p a ∧ CrAt C H r b ∧ ∀ x H', Same H H' → H x = none → CrAt C H' x (.two a b) → Q (.ref x) H'
theorem k_joined (D : Df K mg "joined" s_joined ["one", "other"]) (D_one_behind : Dn P w K mg base 2 "one_behind" ["one", "other"] (spBehind K)) (D_Carried____init__ : DnI P w K mg base (cAt mg "Carried") 1 ["self", "hand", "box", "deed", "parts"] (spCarry K (cAt mg "Carried"))) : Dn P w K mg base 4 "joined" ["one", "other"] (spJoin K (cAt mg "Carried")) := by
  refine D.ok fun f fd F => okG0 F sc_joined (fun vs H Q E h => ?_) (fun cdv A outer s H vs Q E hr h => ⟨_, (pss_one (ps_ret (pe_mkG D_Carried____init__ (hr.less (by decide)) rfl B.Carried_.mg_ (pa_cons (kk (K := K) (F := fun K => tFld K _ _) (P := PE _ _) (pe_fld (pv 0) rfl)) (pa_cons (kk (K := K) (F := fun K => tFld K _ _) (P := PE _ _) (pe_fld (pv 0) rfl)) (pa_cons (pe_cD D_one_behind (hr.less (by decide)) rfl (pa_cons (kk (K := K) (F := fun K => tFld K _ _) (P := PE _ _) (pe_fld (pv 0) rfl)) (pa_cons (kk (K := K) (F := fun K => tFld K _ _) (P := PE _ _) (pe_fld (pv 1) rfl)) pa_nil))) (pa_cons (pe_tup (pa_cons (pv 0) (pa_cons (pv 1) pa_nil))) pa_nil))))))), ?_⟩)
  · obtain ⟨p, r, a, b, rfl, _⟩ := h; rfl
  · obtain ⟨p, r, a, b, rfl, ha, hb, q⟩ := h
    obtain ⟨dx, da, T, top, hd⟩ := ha.top
    obtain ⟨dx2, da2, T2, top2, hd2⟩ := hb.top
    have cl0 := B.Carried_.cl
    have n1 : NoAttr K (cAt mg "Carried") "hand" := B.Carried_.no _ (by decide +kernel)
    have n2 : NoAttr K (cAt mg "Carried") "box" := B.Carried_.no _ (by decide +kernel)
    have n3 : NoAttr K (cAt mg "Carried") "deed" := B.Carried_.no _ (by decide +kernel)
    try walk_at "go"
    intro d1 H1 S1 hd1 od1
    try walk_at "go"
    intro T3 hT3
    generalize eH2 : upd _ T3 _ = H2
    have SH2 := newS eH2 hT3
    have oT3 := newO eH2
    have od1' := SH2 _ _ od1
    try walk_at "go"
    intro x dx3 hx hdx nx
    have m1 := same_new hdx (.own x)
    have hx3 : upd H2 dx3 (.own x) x = none := by rw [upd_ne (Ne.symm nx)]; exact hx
    generalize eH3 : upd H2 dx3 (.own x) = H3 at *
    have m2 := same_new hx3 (.ins (cAt mg "Carried") dx3 [])
    have ox := upd_same (H := H3) (a := x) (o := .ins (cAt mg "Carried") dx3 [])
    generalize upd H3 x (.ins (cAt mg "Carried") dx3 []) = H4 at *
    have S24 := m1.trans m2
    have S04 := S1.trans (SH2.trans S24)
    have hxn : H x = none := none_back (S1.trans SH2) hx
    refine ⟨x, dx3, d1, T3, _, _, rfl, ox, fun H5 b5 o5 => ⟨rfl, ?_⟩⟩
    have S05 := but_same hxn S04 b5
    exact q x H5 S05 hxn ⟨dx3, d1, T3, p, r, o5, b5 _ _ (ne_of_none od1' hx) (S24 _ _ od1'), b5 _ _ (ne_of_none oT3 hx) (S24 _ _ oT3), ha.same S05, hb.same S05⟩
def spBhd (K : PySem.W.Frag) (C : Addr) : Sp := fun vs H Q _ => ∃ (k st nb : Nat) (R T : Addr) (L : List (Addr × Cr)) (s : Tbl), vs = [.int k, .int st, .ref R, .ref T] ∧ k ≤ 4 ∧ 1 ≤ st ∧ st ≤ k ∧ H R = some (.lst (L.map fun x => .ref x.1)) ∧ CrsAt C H L ∧ (∀ x ∈ L, x.2.In k nb) ∧ L.length ≤ 40 ∧ SeAt H T k s ∧
  ∀ (U R' M : Addr) (L' : List (Addr × Cr)) H', Same H H' → H' U = some (.tup [.ref R', .ref M]) → H R' = none → H M = none → H' R' = some (.lst (L'.map fun x => V.ref x.1)) → L'.map (fun x => x.2) = (bhd k st s (L.map fun x => x.2)).1 → CrsAt C H' L' → MmsAt H' M (bhd k st s (L.map fun x => x.2)).2 → Q (.ref U) H'
theorem k_behind_stage (D : Df K mg "behind_stage" s_behind_stage ["k", "stage", "row", "firsts"]) (D_in_turn : Dn P w K mg base 3 "in_turn" ["k", "stage", "row", "firsts"] (spTurn K (cAt mg "Carried"))) (D_line_of : Dn P w K mg base 2 "line_of" ["k", "one", "level"] (spLineOf K (cAt mg "Carried"))) (D_number_without : Dn P w K mg base 1 "number_without" ["k", "line", "stage"] spNwo) (D_joined : Dn P w K mg base 4 "joined" ["one", "other"] (spJoin K (cAt mg "Carried"))) : Dn P w K mg base 5 "behind_stage" ["k", "stage", "row", "firsts"] (spBhd K (cAt mg "Carried")) := by
  refine D.ok fun f fd F => okG0 F sc_behind_stage (fun vs H Q E h => ?_) (fun cdv A outer s H vs Q E hr h => ⟨_, (pss_cons (ps_set (i := 4) sc_behind_stage.nd rfl (Or.inl rfl) pe_dnewT)
    (pss_cons (ps_set (i := 5) sc_behind_stage.nd rfl (Or.inl rfl) (pe_lst pa_nil))
    (pss_cons (ps_for PassesOwn.never rfl (kk (K := K) (F := fun K => iList K _) (P := PI _ _ _) (pi_list (pe_cD D_in_turn (hr.less (by decide)) rfl (pa_cons (pv 0) (pa_cons (pv 1) (pa_cons (pv 2) (pa_cons (pv 3) pa_nil))))))) (pg_name (i := 6) sc_behind_stage.nd rfl (Or.inl rfl))
      (pss_cons (ps_set (i := 7) sc_behind_stage.nd rfl (Or.inl rfl) (pe_tup (pa_cons (pe_cD D_line_of (hr.less (by decide)) rfl (pa_cons (pv 0) (pa_cons (pv 6) (pa_cons (pv 1) pa_nil)))) (pa_cons (kk (K := K) (F := fun K => tFld K _ _) (P := PE _ _) (pe_fld (pv 6) rfl)) pa_nil))))
      (pss_one (ps_if (pt_cmp (pc_din hr.u1 (pv 7) (pv 4)) rfl)
       (pss_cons (ps_expr (kk (K := K) (F := fun K => tBM K "list" _ _ _) (P := PE _ _) (pe_bm PySem.F.plainAttrs_list PySem.F.slot_list_append PySem.F.type_list_append mt_append (pv 5) (pa_cons (pe_tup (pa_cons (pv 1) (pa_cons (pe_cD D_number_without (hr.less (by decide)) rfl (pa_cons (pv 0) (pa_cons (pe_ix (kk (K := K) (F := rIxT) (P := IxR _) ix_tup) (pv 7) pe_int (fun _ _ => rfl)) (pa_cons (pv 1) pa_nil)))) (pa_cons (kk (K := K) (F := fun K => tFld K _ _) (P := PE _ _) (pe_fld (pv 6) rfl)) (pa_cons (kk (K := K) (F := fun K => tFld K _ _) (P := PE _ _) (pe_fld (pe_dget hr.u1 (pv 4) (pv 7) (fun _ _ => rfl)) rfl)) pa_nil))))) pa_nil))))
       (pss_one (ps_dput hr.u1 (pv 4) (pv 7) (pe_cD D_joined (hr.less (by decide)) rfl (pa_cons (pe_dget hr.u1 (pv 4) (pv 7) (fun _ _ => rfl)) (pa_cons (pv 6) pa_nil))) rfl)))
       (pss_one (ps_dput hr.u1 (pv 4) (pv 7) (pv 6) rfl))))))
    (pss_one (ps_ret (pe_tup (pa_cons (pe_callTy (call_lst_vals rfl) (by rfl) B.list_ (by decide +kernel) (pa_cons (kk (K := K) (F := fun K => tBM0 K "dict" _ _) (P := PE _ _) (pe_bm0 PySem.F.plainAttrs_dict PySem.F.slot_dict_values PySem.F.type_dict_values mt_valT (pv 4))) pa_nil)) (pa_cons (pv 5) pa_nil)))))))), ?_⟩)
  · obtain ⟨k, st, nb, R, T, L, s, rfl, _⟩ := h; rfl
  · obtain ⟨k, st, nb, R, T, L, s, rfl, hk, h1, h2, hR, hL, hin, h40, hS, q⟩ := h
    have cl0 := B.Carried_.cl
    have n2 : NoAttr K (cAt mg "Carried") "box" := B.Carried_.no _ (by decide +kernel)
    have n3 : NoAttr K (cAt mg "Carried") "deed" := B.Carried_.no _ (by decide +kernel)
    try walk_at "go"
    intro D hD
    generalize eH1 : upd _ D _ = H1
    have SH1 := newS eH1 hD
    have oD := newO eH1
    try walk_at "go"
    intro M hM
    generalize eH2 : upd _ M _ = H2
    have SH2 := newS eH2 hM
    have oM := newO eH2
    have hR2 := (SH1.trans SH2) _ _ hR
    have hL2 := hL.same (SH1.trans SH2)
    have hS2 := hS.same (SH1.trans SH2)
    have oD2 := SH2 _ _ oD
    try walk_at "go"
    intro R2 L2 H3 S3 hR2n hR3 eL2 mL2
    have S03 := SH1.trans (SH2.trans S3)
    have hMn : H M = none := none_back SH1 hM
    have nDM : D ≠ M := ne_of_none oD hM
    have nDR : R2 ≠ D := fun z => by rw [z, oD2] at hR2n; cases hR2n
    have nMR : R2 ≠ M := fun z => by rw [z, oM] at hR2n; cases hR2n
    have oD3 := S3 _ _ oD2
    have oM3 := S3 _ _ oM
    have l2 : L2.length = L.length := by
      have := (congrArg List.length eL2).trans (turn_len (k := k) (st := st) (s := s))
      rw [List.length_map, List.length_map] at this
      exact this
    try walk_at "go"
    refine for_list (K := K) (a := R2) (xs := L2.map fun x => V.ref x.1) (fun i σ H' => Kept (∃ (rows : List (Addr × Cr)) (w6 w7 : Option V), σ = [some (.int (k : Nat)), some (.int (st : Nat)), some (.ref R), some (.ref T), some (.ref D), some (.ref M), w6, w7] ∧ Same H H' ∧ H' R2 = some (.lst (L2.map fun x => V.ref x.1)) ∧ H' D = some (.dT (kvs k st rows)) ∧ rows.map (fun x => x.2) = (((L2.map fun x => x.2).take i).foldl (put1 k st) ([], [])).1 ∧ CrsAt (cAt mg "Carried") H' rows ∧ MmsAt H' M (((L2.map fun x => x.2).take i).foldl (put1 k st) ([], [])).2)) ⟨[], _, _, rfl, S03, hR3, oD3, rfl, fun x hx => absurd hx List.not_mem_nil, [], oM3, rfl, fun x hx => absurd hx List.not_mem_nil⟩ (fun i σ H' _ h => by obtain ⟨_, _, _, _, _, b, _⟩ := h.ex; exact SqL.of b) ?_ ?_
    · rintro i x σ H4 hx ⟨rows, w6, w7, rfl, S4, hR4, hD4, eR4, cR4, mm4⟩
      obtain ⟨ts, hM4, eM4, mM4⟩ := mm4
      rw [List.getElem?_map] at hx
      obtain ⟨⟨a, c⟩, ha, rfl⟩ := Option.map_eq_some_iff.mp hx
      have hi : i < L2.length := (List.getElem?_eq_some_iff.mp ha).1
      have aM := mL2 _ (List.mem_of_getElem? ha)
      have hc4 := (hL _ aM).same S4
      obtain ⟨dx, da, T', top, hda⟩ := hc4.top
      obtain ⟨hh, hb⟩ := (hin _ aM).hd
      have gl : c.box % 2 ^ k < 2 ^ k := goal_lt (c := c)
      obtain ⟨e1, e2⟩ := low_nat (k := k) (h := c.hand) (g := goal k c) (j := st) (by omega) hh goal_lt h2
      have nx : ((L2.map fun x => x.2).take (i + 1)).foldl (put1 k st) ([], []) = put1 k st (((L2.map fun x => x.2).take i).foldl (put1 k st) ([], [])) c := by
        have e : (L2.map fun x => x.2)[i]? = some c := by rw [List.getElem?_map, ha] <;> rfl
        rw [take_snoc e, List.foldl_append] <;> rfl
      have fl := fold_len (k := k) (st := st) ((L2.map fun x => x.2).take i) ([], [])
      have fu := (fold_uk (k := k) (st := st) ((L2.map fun x => x.2).take i) ([], []) (by unfold Uk; simp)).1
      rw [List.length_take, List.length_map] at fl
      have f1 := fl.1
      have f2 := fl.2
      rw [show (([], []) : List Cr × List Mm).1.length = 0 from rfl] at f1
      rw [show (([], []) : List Cr × List Mm).2.length = 0 from rfl] at f2
      rw [nx]
      generalize ((L2.map fun x => x.2).take i).foldl (put1 k st) ([], []) = sx at eR4 eM4 f1 f2 fu ⊢
      obtain ⟨s1, ms⟩ := sx
      dsimp only at eR4 eM4 f1 f2 fu
      subst eR4
      rw [List.length_map] at f1
      try walk_at "go"
      intro G hG
      generalize eH5 : upd _ G _ = H5
      have SH5 := newS eH5 hG
      have oG := newO eH5
      have oG : H5 G = some (.tup ((ky k st c).map kV)) := oG
      have hD5 := SH5 _ _ hD4
      have hM5 := SH5 _ _ hM4
      have hc5 := hc4.same SH5
      have cR5 := cR4.same SH5
      have gU := DGet.t hD5 oG
      rw [kvs_val] at gU
      have klen : (kvs k st rows).length = rows.length := by unfold kvs; rw [List.length_map]
      have tlen : (ts.map fun x => V.ref x.1).length ≤ 100 := by
        have := congrArg List.length eM4
        rw [List.length_map] at this ⊢
        omega
      have e0 : atI (kyV k st c) ((0 : Nat) : Int) = some (.int (lnC k st c)) := rfl
      cases ef : rows.find? (fun x => decide (ky k st x.2 = ky k st c)) with
      | none =>
        rw [ef] at gU
        have put := DPut.t (v := .ref a) hD5 oG (small1000 (by rw [klen]; omega))
        rw [putK_new _ (by rw [kvs_val, ef] <;> rfl)] at put
        try walk_at "go"
        generalize eH6 : upd H5 D (HO.dT (kvs k st rows ++ [(ky k st c, .ref a)])) = H6
        have BH6 : But D H5 H6 := eH6 ▸ But.upd
        have oH6 : H6 D = some (HO.dT (kvs k st rows ++ [(ky k st c, .ref a)])) := eH6 ▸ upd_same
        have nMD6 := BH6 _ _ (Ne.symm nDM) hM5
        have hDn : H D = none := hD
        refine ⟨⟨rows ++ [(a, c)], _, _, rfl, but_same hDn (S4.trans SH5) BH6, BH6 _ _ nDR (SH5 _ _ hR4), ?_, ?_, ?_, ?_⟩⟩
        · rw [oH6]; unfold kvs; rw [List.map_append] <;> rfl
        · rw [put1_new ef a]
        · intro x hx
          rcases List.mem_append.mp hx with z | z
          · exact (cR5 x z).butT hD5 BH6
          · cases List.mem_singleton.mp z
            exact hc5.butT hD5 BH6
        · rw [put1_new ef a]
          exact ⟨ts, nMD6, eM4, fun x hx => (mM4 x hx).tk fun t xs z => BH6 _ _ (ne_of (SH5 _ _ z) hD5 (by intro z; cases z)) (SH5 _ _ z)⟩
      | some x0 =>
        rw [ef] at gU
        have m0 := List.mem_of_find?_eq_some ef
        have c05 := cR5 x0 m0
        obtain ⟨dx0, da0, T0, top0, hda0⟩ := c05.top
        try walk_at "go"
        refine ⟨vs3 e1, hk, h2, e2, ?_⟩
        try walk_at "go"
        intro MT hMT
        generalize eH6 : upd _ MT _ = H6
        have SH6 := newS eH6 hMT
        have oMT := newO eH6
        have hM6 := SH6 _ _ hM5
        have hD6 := SH6 _ _ hD5
        try walk_at "go"
        generalize eH7 : upd H6 M (HO.lst ((ts.map fun x => V.ref x.1) ++ [.ref MT])) = H7
        have BH7 : But M H6 H7 := eH7 ▸ But.upd
        have oH7 : H7 M = some (HO.lst ((ts.map fun x => V.ref x.1) ++ [.ref MT])) := eH7 ▸ upd_same
        have hD7 := BH7 _ _ nDM hD6
        have oG7 := BH7 _ _ (ne_of (SH6 _ _ oG) hM6 (by intro z; cases z)) (SH6 _ _ oG)
        have gU7 := DGet.t hD7 oG7
        rw [kvs_val, ef] at gU7
        have c07 := (c05.same SH6).but hM6 BH7
        have hc7 := (hc5.same SH6).but hM6 BH7
        have hDn : H D = none := hD
        try walk_at "go"
        intro J H8 S8 hJn hJ
        have hD8 := S8 _ _ hD7
        have oG8 := S8 _ _ oG7
        have put := DPut.t (v := .ref J) hD8 oG8 (small1000 (by rw [klen]; omega))
        rw [kvs_put (a := J) (c := c) ef] at put
        try walk_at "go"
        generalize eH9 : upd H8 D (HO.dT (kvs k st (jrows k st rows J c))) = H9
        have BH9 : But D H8 H9 := eH9 ▸ But.upd
        have oH9 : H9 D = some (HO.dT (kvs k st (jrows k st rows J c))) := eH9 ▸ upd_same
        have S07 := but_same hMn (S4.trans (SH5.trans SH6)) BH7
        have tkk : ∀ t xs, H6 t = some (.tup xs) → H9 t = some (.tup xs) := fun t xs z => by
          have z7 := S8 _ _ (BH7 _ _ (ne_of z hM6 (by intro z; cases z)) z)
          exact BH9 _ _ (ne_of z7 hD8 (by intro z; cases z)) z7
        refine ⟨⟨jrows k st rows J c, _, _, rfl, but_same hDn (S07.trans S8) BH9, BH9 _ _ nDR (S8 _ _ (BH7 _ _ nMR ((SH5.trans SH6) _ _ hR4))), oH9, ?_, ?_, ?_⟩⟩
        · rw [jrows_snd (a := J) ef]
        · exact jrows_at (fun x hx => (((cR5 x hx).same SH6).but hM6 BH7 |>.same S8).butT hD8 BH9) fu ef (hJ.butT hD8 BH9)
        · rw [jrows_snd (a := J) ef]
          refine ⟨ts ++ [(MT, (st, nwo k (lnC k st c).toNat st, c.box, x0.2.d))], ?_, ?_, fun x hx => ?_⟩
          · rw [BH9 _ _ (Ne.symm nDM) (S8 _ _ oH7), List.map_append] <;> rfl
          · rw [List.map_append, eM4] <;> rfl
          · rcases List.mem_append.mp hx with z | z
            · exact (mM4 x z).tk fun t xs e => tkk _ _ (SH6 _ _ (SH5 _ _ e))
            · cases List.mem_singleton.mp z
              exact ⟨da0, tkk _ _ oMT, tkk _ _ (SH6 _ _ hda0)⟩
    rintro σ H4 ⟨rows, w6, w7, rfl, S4, hR4, hD4, eR4, cR4, mm4⟩
    rw [List.length_map, List.take_of_length_le (by rw [List.length_map]; exact Nat.le_refl _), eL2] at eR4 mm4
    have tyD : tyV K "dict" (.ref D) H4 := .inr (.inr (.inl ⟨rfl, .inr ⟨_, hD4⟩⟩))
    try walk_at "go"
    intro p hp
    generalize eH5 : upd H4 p (valsO p D) = H5
    have SH5 := newS eH5 hp
    have oP : H5 p = some (valsO p D) := newO eH5
    have hD5 := SH5 _ _ hD4
    try walk_at "go"
    intro W hW
    generalize eH6 : upd _ W _ = H6
    have SH6 := newS eH6 hW
    have oW := newO eH6
    try walk_at "go"
    intro U hU
    generalize eH7 : upd _ U _ = H7
    have SH7 := newS eH7 hU
    have oU := newO eH7
    rw [kvs_vals] at oW
    have S47 := SH5.trans (SH6.trans SH7)
    exact q U W M rows H7 (S4.trans S47) oU (none_back (S4.trans SH5) hW) hMn (SH7 _ _ oW) eR4 (cR4.same S47) (mm4.same S47)
def spPutIn (K : PySem.W.Frag) (C : Addr) : Sp := fun vs H Q _ => ∃ (k : Addr) (as : List Ak) (nb : Nat), vs = [.ref k] ∧ AsksAt H k as nb ∧ ∀ (R : Addr) (L : List (Addr × Cr)) H', Same H H' → H R = none → H' R = some (.lst (L.map fun x => V.ref x.1)) → L.map (fun x => x.2) = crs0 as → CrsAt C H' L → Q (.ref R) H'
theorem k_put_in (D : Df K mg "put_in" s_put_in ["asks"]) (D_Carried____init__ : DnI P w K mg base (cAt mg "Carried") 1 ["self", "hand", "box", "deed", "parts"] (spCarry K (cAt mg "Carried"))) : Dn P w K mg base 3 "put_in" ["asks"] (spPutIn K (cAt mg "Carried")) := by
  refine D.ok fun f fd F => okG0 F sc_put_in (fun vs H Q E h => ?_) (fun cdv A outer s H vs Q E hr h => ⟨_, (pss_one (ps_ret (pe_lc (own := [("number", 1), ("hand", 2), ("box", 3), ("deed", 4)]) (tt := tYes) rfl sc_put_in.nd (kk (K := K) (F := fun K => iEnumT K _) (P := PI _ _ _) (pi_enumT (by rfl) B.enumerate_ (pa_cons (pv 0) pa_nil))) (blkOk_by (own := [("number", 1), ("hand", 2), ("box", 3), ("deed", 4)]) (N := ["asks", "number", "hand", "box", "deed"]) (sc := defScope s_put_in) (by decide +kernel)) (fun _ _ _ _ _ => (kk (K := K) (F := fun K => gTup K 2 _) (P := PG _ _) (pg_tup rfl (pgs_cons (pg_name (i := 1) sc_put_in.nd rfl (Or.inl rfl)) (pgs_cons (kk (K := K) (F := fun K => gTup K 3 _) (P := PG _ _) (pg_tup rfl (pgs_cons (pg_name (i := 2) sc_put_in.nd rfl (Or.inl rfl)) (pgs_cons (pg_name (i := 3) sc_put_in.nd rfl (Or.inl rfl)) (pgs_cons (pg_name (i := 4) sc_put_in.nd rfl (Or.inl rfl)) pgs_nil))))) pgs_nil))))) (fun _ _ _ _ _ => pts_nil) (fun _ _ _ _ _ => (pe_mkG D_Carried____init__ (hr.less (by decide)) rfl B.Carried_.mg_ (pa_cons (pv 2) (pa_cons (pv 3) (pa_cons (pv 4) (pa_cons (pe_tup (pa_cons (pv 1) pa_nil)) pa_nil))))))))), ?_⟩)
  · obtain ⟨k, as, nb, rfl, _⟩ := h; rfl
  · obtain ⟨k, as, nb, rfl, hk, q⟩ := h
    have hkt := hk.1
    have h40 := hk.2.1
    try walk_at "go"
    intro D hD
    refine lc_enumT (K := K) (a := k) (xs := as.map fun x => V.ref x.a) (fun i H' => Kept (∃ L : List (Addr × Cr), Same H H' ∧ H' D = some (.lst (L.map fun x => V.ref x.1)) ∧ L.map (fun x => x.2) = crs0 (as.take i) ∧ L.length = i ∧ CrsAt (cAt mg "Carried") H' L)) ⟨[], same_new hD _, upd_same, rfl, rfl, fun x hx => absurd hx List.not_mem_nil⟩ (fun i H' _ h => by obtain ⟨_, S, _⟩ := h.ex; exact SqT.of (S _ _ hkt)) ?_ ?_
    · rintro i v P H2 hv ⟨L, S2, hD2, eL, lL, cL⟩ hP
      rw [List.getElem?_map] at hv
      obtain ⟨x, hx, rfl⟩ := Option.map_eq_some_iff.mp hv
      have hi : i < as.length := (List.getElem?_eq_some_iff.mp hx).1
      obtain ⟨xa, xd, x0, x16, xb⟩ := (hk.2.2 x (List.mem_of_getElem? hx)).same S2
      have xd1 := xd.1
      generalize eH3 : upd _ P (HO.tup [.int (i : Nat), .ref x.a]) = H3
      have SH3 := newS eH3 hP
      have oP := newO eH3
      have xa3 := SH3 _ _ xa
      have ul : (L.map fun x => V.ref x.1).length ≤ 100 := by rw [List.length_map]; omega
      try walk_at "go"
      intro T1 hT1
      generalize eH4 : upd _ T1 _ = H4
      have SH4 := newS eH4 hT1
      have oT1 := newO eH4
      try walk_at "go"
      intro y dx hy hdx nx
      have m1 := same_new hdx (.own y)
      have hy3 : upd H4 dx (.own y) y = none := by rw [upd_ne (Ne.symm nx)]; exact hy
      generalize eH5 : upd H4 dx (.own y) = H5 at *
      have m2 := same_new hy3 (.ins (cAt mg "Carried") dx [])
      have oy := upd_same (H := H5) (a := y) (o := .ins (cAt mg "Carried") dx [])
      generalize upd H5 y (.ins (cAt mg "Carried") dx []) = H6 at *
      have S26 := SH3.trans (SH4.trans (m1.trans m2))
      have yn2 : H2 y = none := none_back (SH3.trans SH4) hy
      have ynD : D ≠ y := ne_of_none hD2 yn2
      have xd4 := (SH3.trans SH4) _ _ xd1
      refine ⟨y, dx, x.da, T1, _, _, rfl, oy, fun H7 b7 o7 => ⟨rfl, ?_⟩⟩
      have S27 := but_same yn2 S26 b7
      have hD7 := S27 _ _ hD2
      have cr : CrAt (cAt mg "Carried") H7 y (.one i x) := by
        refine ⟨dx, x.da, T1, ?_, S27 _ _ xd1, b7 _ _ (ne_of_none oT1 hy) ((m1.trans m2) _ _ oT1)⟩
        have e : x.hand = ((x.hand.toNat : Nat) : Int) := (Int.toNat_of_nonneg x0).symm
        rw [e] at o7
        exact o7
      have cL7 := cL.same S27
      try walk_at "go"
      refine ⟨⟨L ++ [(y, .one i x)], but_same hD (S2.trans S27) But.upd, by rw [upd_same, List.map_append] <;> rfl, ?_, by rw [List.length_append, lL] <;> rfl, fun z hz => ?_⟩⟩
      · rw [List.map_append, eL, take_snoc hx]
        unfold crs0
        rw [List.zipIdx_append, List.map_append, List.length_take, Nat.min_eq_left (Nat.le_of_lt hi), Nat.zero_add] <;> rfl
      · rcases List.mem_append.mp hz with c | c
        · exact (cL7 z c).but hD7 But.upd
        · cases List.mem_singleton.mp c
          exact cr.but hD7 But.upd
    rintro H2 ⟨L, S2, hD2, eL, lL, cL⟩
    rw [List.length_map, List.take_length] at eL
    exact q D L H2 S2 hD hD2 eL cL
/-! SPLIT -/
omit B in
theorem at_neg {xs : List V} {i : Nat} {v : V} (h : xs.length = i + 1) (e : xs[i]? = some v) : atI xs (-1) = some v := by
  unfold atI ixN
  have h1 : ¬ (0 : Int) ≤ -1 := by decide
  have h2 : -(xs.length : Int) ≤ -1 := by omega
  simp only [h1, if_false, h2, if_true]
  show xs[((xs.length : Int) + -1).toNat]? = _
  rw [show ((xs.length : Int) + -1).toNat = i by omega, e]
/-- the rows of all levels -/
def LvsAt (C : Addr) (H : Hp) (D : Addr) (f : Nat → List Cr) (n : Nat) : Prop := ∃ rs : List (Addr × List (Addr × Cr)), H D = some (.lst (rs.map fun x => V.ref x.1)) ∧ rs.length = n ∧ ∀ (j : Nat) (x : Addr × List (Addr × Cr)), rs[j]? = some x → H x.1 = some (.lst (x.2.map fun y => V.ref y.1)) ∧ x.2.map (fun y => y.2) = f j ∧ CrsAt C H x.2
omit B in
theorem LvsAt.same {C : Addr} {H H' : Hp} {D : Addr} {f : Nat → List Cr} {n : Nat} (h : LvsAt C H D f n) (e : Same H H') : LvsAt C H' D f n := by
  obtain ⟨rs, h1, h2, h3⟩ := h
  exact ⟨rs, e _ _ h1, h2, fun j x hx => ⟨e _ _ (h3 j x hx).1, (h3 j x hx).2.1, (h3 j x hx).2.2.same e⟩⟩
def spGone (K : PySem.W.Frag) (C : Addr) : Sp := fun vs H Q _ => ∃ (k nb : Nat) (A T : Addr) (as : List Ak) (s : Tbl), vs = [.int k, .ref A, .ref T] ∧ k ≤ 4 ∧ AsksAt H A as nb ∧ (∀ x ∈ as, x.hand.toNat < 2 ^ k ∧ x.box < nb) ∧ SeAt H T k s ∧
  ∀ (U D M : Addr) H', Same H H' → H' U = some (.tup [.ref D, .ref M]) → LvsAt C H' D (lvl k s as) (k + 1) → MmsAt H' M (mem k s as k) → Q (.ref U) H'
theorem k_gone (D : Df K mg "gone" s_gone ["k", "asks", "firsts"]) (D_put_in : Dn P w K mg base 3 "put_in" ["asks"] (spPutIn K (cAt mg "Carried"))) (D_behind_stage : Dn P w K mg base 5 "behind_stage" ["k", "stage", "row", "firsts"] (spBhd K (cAt mg "Carried"))) : Dn P w K mg base 6 "gone" ["k", "asks", "firsts"] (spGone K (cAt mg "Carried")) := by
  refine D.ok fun f fd F => okG0 F sc_gone (fun vs H Q E h => ?_) (fun cdv A outer s H vs Q E hr h => ⟨_, (pss_cons (ps_set (i := 3) sc_gone.nd rfl (Or.inl rfl) (pe_lst (pa_cons (pe_cD D_put_in (hr.less (by decide)) rfl (pa_cons (pv 1) pa_nil)) pa_nil)))
    (pss_cons (ps_set (i := 4) sc_gone.nd rfl (Or.inl rfl) (pe_lst pa_nil))
    (pss_cons (ps_for PassesOwn.never rfl (pi_range2 (by rfl) B.range_ (pa_cons pe_int (pa_cons (pe_op op_add (pv 0) pe_int) pa_nil))) (pg_name (i := 5) sc_gone.nd rfl (Or.inl rfl))
      (pss_cons (ps_asg (pe_cD D_behind_stage (hr.less (by decide)) rfl (pa_cons (pv 0) (pa_cons (pv 5) (pa_cons (pe_ix (kk (K := K) (F := rIxL) (P := IxR _) ix_list) (pv 3) (pe_un un_neg pe_int) (fun _ _ => rfl)) (pa_cons (pv 2) pa_nil))))) (kk (K := K) (F := fun K => gTup K 2 _) (P := PG _ _) (pg_tup rfl (pgs_cons (pg_name (i := 6) sc_gone.nd rfl (Or.inl rfl)) (pgs_cons (pg_name (i := 7) sc_gone.nd rfl (Or.inl rfl)) pgs_nil)))))
      (pss_cons (ps_expr (kk (K := K) (F := fun K => tBM K "list" _ _ _) (P := PE _ _) (pe_bm PySem.F.plainAttrs_list PySem.F.slot_list_append PySem.F.type_list_append mt_append (pv 3) (pa_cons (pv 6) pa_nil))))
      (pss_one (ps_expr (kk (K := K) (F := fun K => tBM K "list" _ _ _) (P := PE _ _) (pe_bm PySem.F.plainAttrs_list PySem.F.slot_list_extend PySem.F.type_list_extend mt_extend (pv 4) (pa_cons (pv 7) pa_nil))))))))
    (pss_one (ps_ret (pe_tup (pa_cons (pv 3) (pa_cons (pv 4) pa_nil)))))))), ?_⟩)
  · obtain ⟨k, nb, A, T, as, s, rfl, _⟩ := h; rfl
  · obtain ⟨k, nb, A, T, as, s, rfl, hk, hA, hin, hS, q⟩ := h
    have h40 := hA.2.1
    try walk_at "go"
    intro R L H1 S1 hRn hR eL cL
    try walk_at "go"
    intro D hD
    generalize eH2 : upd _ D _ = H2
    have SH2 := newS eH2 hD
    have oD := newO eH2
    try walk_at "go"
    intro M hM
    generalize eH3 : upd _ M _ = H3
    have SH3 := newS eH3 hM
    have oM := newO eH3
    have S13 := SH2.trans SH3
    have hDn : H D = none := none_back S1 hD
    have hMn : H M = none := none_back (S1.trans SH2) hM
    have nDM : D ≠ M := ne_of_none oD hM
    have nRD : R ≠ D := fun z => by rw [z, hD] at hR; cases hR
    have nRM : R ≠ M := fun z => by rw [← z, SH2 _ _ hR] at hM; cases hM
    have oD3 := SH3 _ _ oD
    try walk_at "go"
    have tk : (((k : Nat) : Int) + 1 - 1).toNat = k := by omega
    rw [tk]
    refine for_range (lo := 1) (n := k) (fun i σ H' => Kept (∃ (rs : List (Addr × List (Addr × Cr))) (w5 w6 w7 : Option V), σ = [some (.int (k : Nat)), some (.ref A), some (.ref T), some (.ref D), some (.ref M), w5, w6, w7] ∧ Same H H' ∧ H' D = some (.lst (rs.map fun x => V.ref x.1)) ∧ rs.length = i + 1 ∧ (∀ x ∈ rs, x.1 ≠ D ∧ x.1 ≠ M) ∧ (∀ (j : Nat) (x : Addr × List (Addr × Cr)), rs[j]? = some x → H' x.1 = some (.lst (x.2.map fun y => V.ref y.1)) ∧ x.2.map (fun y => y.2) = lvl k s as j ∧ CrsAt (cAt mg "Carried") H' x.2) ∧ MmsAt H' M (mem k s as i))) ⟨[(R, L)], _, _, _, rfl, S1.trans S13, oD3, rfl, fun x hx => by cases List.mem_singleton.mp hx; exact ⟨nRD, nRM⟩, fun j x hx => ?_, [], oM, rfl, fun x hx => absurd hx List.not_mem_nil⟩ ?_ ?_
    · cases j with
      | zero =>
        cases (Option.some.inj hx)
        exact ⟨S13 _ _ hR, eL, cL.same S13⟩
      | succ j => simp at hx
    · rintro i σ H4 hi ⟨rs, w5, w6, w7, rfl, S4, hD4, lr, nr, rr, mm4⟩
      obtain ⟨ts, hM4, eM4, mM4⟩ := mm4
      have hl : i < rs.length := by omega
      obtain ⟨r1, r2, r3⟩ := rr i rs[i] (List.getElem?_eq_getElem hl)
      have e1 : (1 : Int) + (i : Int) = ((i + 1 : Nat) : Int) := by omega
      rw [e1]
      have ixm : atI (rs.map fun x => V.ref x.1) (-1) = some (.ref rs[i].1) := at_neg (i := i) (by rw [List.length_map]; exact lr) (by rw [List.getElem?_map, List.getElem?_eq_getElem hl] <;> rfl)
      have inL : ∀ x ∈ rs[i].2, x.2.In k nb := fun x hx => lvl_in (s := s) hin i x.2 (by rw [← r2]; exact List.mem_map.mpr ⟨x, hx, rfl⟩)
      have l40 : rs[i].2.length ≤ 40 := by
        have h1 := congrArg List.length r2
        have h2 := lvl_len (k := k) (s := s) (as := as) i
        rw [List.length_map] at h1
        omega
      have hS4 := hS.same S4
      have ul : (rs.map fun x => V.ref x.1).length ≤ 10 := by rw [List.length_map]; omega
      try walk_at "go"
      intro U R' M' L' H5 S5 oU hRn5 hMn5 hR5 eL5 cL5 mm5
      obtain ⟨ts', hM5, eM5, mM5⟩ := mm5
      have hD5 := S5 _ _ hD4
      have hMm5 := S5 _ _ hM4
      have tl1 : ts.length ≤ i * as.length := by
        have h1 := congrArg List.length eM4
        have h2 := mem_len (k := k) (s := s) (as := as) i
        rw [List.length_map] at h1
        omega
      have tl2 : ts'.length ≤ 40 := by
        have h1 := congrArg List.length eM5
        have h2 := (bhd_len (k := k) (st := i + 1) (s := s) (row := rs[i].2.map fun y => y.2)).2
        rw [List.length_map] at h1 h2
        omega
      have tl3 : i * as.length ≤ 4 * 40 := Nat.mul_le_mul (by omega) h40
      have tl : (ts.map fun x => V.ref x.1).length + (ts'.map fun x => V.ref x.1).length ≤ 200 := by rw [List.length_map, List.length_map]; omega
      have nRn := none_back S4 hRn5
      have nR'D : R' ≠ D := fun z => by rw [z, hD4] at hRn5; cases hRn5
      have nR'M : R' ≠ M := fun z => by rw [z, hM4] at hRn5; cases hRn5
      try walk_at "go"
      generalize eH6 : upd H5 D (HO.lst ((rs.map fun x => V.ref x.1) ++ [.ref R'])) = H6
      have BH6 : But D H5 H6 := eH6 ▸ But.upd
      have oH6 : H6 D = some (HO.lst ((rs.map fun x => V.ref x.1) ++ [.ref R'])) := eH6 ▸ upd_same
      have hM6 := BH6 _ _ (Ne.symm nDM) hMm5
      have nM'D : M' ≠ D := fun z => by rw [z, hD4] at hMn5; cases hMn5
      have nM'M : M' ≠ M := fun z => by rw [z, hM4] at hMn5; cases hMn5
      have hM'6 := BH6 _ _ nM'D hM5
      try walk_at "go"
      generalize eH7 : upd H6 M (HO.lst ((ts.map fun x => V.ref x.1) ++ ts'.map fun x => V.ref x.1)) = H7
      have BH7 : But M H6 H7 := eH7 ▸ But.upd
      have oH7 : H7 M = some (HO.lst ((ts.map fun x => V.ref x.1) ++ ts'.map fun x => V.ref x.1)) := eH7 ▸ upd_same
      have kl : ∀ a xs, a ≠ D → a ≠ M → H5 a = some (.lst xs) → H7 a = some (.lst xs) := fun a xs n1 n2 z => BH7 _ _ n2 (BH6 _ _ n1 z)
      have kt : ∀ a xs, H5 a = some (.tup xs) → H7 a = some (.tup xs) := fun a xs z => BH7 _ _ (ne_of (BH6 _ _ (ne_of z hD5 (by intro w; cases w)) z) hM6 (by intro w; cases w)) (BH6 _ _ (ne_of z hD5 (by intro w; cases w)) z)
      have kc : ∀ (a : Addr) (c : Cr), CrAt (cAt mg "Carried") H5 a c → CrAt (cAt mg "Carried") H7 a c := fun a c z => (z.but hD5 BH6).but hM6 BH7
      have lr' : lvl k s as (i + 1) = (bhd k (i + 1) s (lvl k s as i)).1 := rfl
      have mr' : mem k s as (i + 1) = mem k s as i ++ (bhd k (i + 1) s (lvl k s as i)).2 := rfl
      rw [r2] at eL5 eM5
      refine ⟨⟨rs ++ [(R', L')], _, _, _, rfl, but_same hMn (but_same hDn (S4.trans S5) BH6) BH7, ?_, by rw [List.length_append, lr] <;> rfl, fun x hx => ?_, fun j x hx => ?_, ts ++ ts', by rw [oH7, List.map_append], by rw [List.map_append, eM4, eM5, mr'], fun x hx => ?_⟩⟩
      · rw [BH7 _ _ nDM oH6, List.map_append] <;> rfl
      · rcases List.mem_append.mp hx with z | z
        · exact nr x z
        · cases List.mem_singleton.mp z
          exact ⟨nR'D, nR'M⟩
      · by_cases c : j < rs.length
        · rw [List.getElem?_append_left c] at hx
          obtain ⟨g1, g2, g3⟩ := rr j x hx
          obtain ⟨n1, n2⟩ := nr x (List.mem_of_getElem? hx)
          exact ⟨kl _ _ n1 n2 (S5 _ _ g1), g2, fun y hy => kc _ _ ((g3 y hy).same S5)⟩
        · rw [List.getElem?_append_right (by omega)] at hx
          have h3 := (List.getElem?_eq_some_iff.mp hx).1
          have h5 : [(R', L')].length = 1 := rfl
          have ej : j = i + 1 := by omega
          subst ej
          rw [lr, Nat.sub_self] at hx
          cases (Option.some.inj hx)
          exact ⟨kl _ _ nR'D nR'M hR5, by rw [lr']; exact eL5, fun y hy => kc _ _ (cL5 y hy)⟩
      · rcases List.mem_append.mp hx with z | z
        · exact (mM4 x z).tk fun t xs e => kt _ _ (S5 _ _ e)
        · exact (mM5 x z).tk fun t xs e => kt _ _ e
    rintro σ H4 ⟨rs, w5, w6, w7, rfl, S4, hD4, lr, nr, rr, mm4⟩
    try walk_at "go"
    intro U hU
    generalize eH5 : upd _ U _ = H5
    have SH5 := newS eH5 hU
    have oU := newO eH5
    exact q U D M H5 (S4.trans SH5) oU (LvsAt.same (C := cAt mg "Carried") (f := lvl k s as) ⟨rs, hD4, lr, rr⟩ SH5) (mm4.same SH5)
/-! SPLIT -/
def spStraight (K : PySem.W.Frag) : Sp := fun vs H Q _ => ∃ k : Nat, vs = [.int k] ∧ k ≤ 4 ∧ ∀ T H', Same H H' → SeAt H' T k (fun _ _ => 0) → Q (.ref T) H'
theorem k_straight (D : Df K mg "straight" s_straight ["k"]) (D_want_net : DnD P w K mg base 3 "want_net" ["k", "deepest"] [.int 4] spWantNet) (D_plain_rows : Dn P w K mg base 1 "plain_rows" ["k"] spPlain) (D_as_settings : Dn P w K mg base 1 "as_settings" ["rows"] (spAsSe K)) : Dn P w K mg base 4 "straight" ["k"] (spStraight K) := by
  refine D.ok fun f fd F => okG0 F sc_straight (fun vs H Q E h => ?_) (fun cdv A outer s H vs Q E hr h => ⟨_, (pss_cons (ps_expr (pe_cDd D_want_net (hr.less (by decide)) rfl (pa_cons (pv 0) pa_nil)))
    (pss_one (ps_ret (pe_cD D_as_settings (hr.less (by decide)) rfl (pa_cons (pe_cD D_plain_rows (hr.less (by decide)) rfl (pa_cons (pv 0) pa_nil)) pa_nil))))), ?_⟩)
  · obtain ⟨k, rfl, _⟩ := h; rfl
  · obtain ⟨k, rfl, hk, q⟩ := h
    try walk_at "go"
    intro D rs H1 S1 hDn hD hrs rw1
    try walk_at "go"
    intro T H2 S2 hT
    exact q T H2 (S1.trans S2) hT
def spWantRound (K : PySem.W.Frag) : Sp := fun vs H Q _ => ∃ (k : Nat) (b A : Addr) (bs : List Int) (as : List Ak), vs = [.int k, .ref b, .ref A] ∧ k ≤ 4 ∧ BoardAt H b bs ∧ AsksAt H A as bs.length ∧ (as.map fun x => x.hand).Nodup ∧ (∀ x ∈ as, x.hand.toNat < 2 ^ k) ∧ ∀ H', Same H H' → Q .non H'
theorem k_want_round (D : Df K mg "want_round" s_want_round ["k", "board", "asks"]) (D_want_net : DnD P w K mg base 3 "want_net" ["k", "deepest"] [.int 4] spWantNet) (D_want_asks : Dn P w K mg base 6 "want_asks" ["board", "asks"] (spWantAsks K)) : Dn P w K mg base 7 "want_round" ["k", "board", "asks"] (spWantRound K) := by
  refine D.ok fun f fd F => okG0 F sc_want_round (fun vs H Q E h => ?_) (fun cdv A outer s H vs Q E hr h => ⟨_, (pss_cons (ps_expr (pe_cDd D_want_net (hr.less (by decide)) rfl (pa_cons (pv 0) pa_nil)))
    (pss_cons (ps_expr (pe_cD D_want_asks (hr.less (by decide)) rfl (pa_cons (pv 1) (pa_cons (pv 2) pa_nil))))
    (pss_cons (ps_setLc (i := 3) (own := [("hand", 4), ("box", 5), ("deed", 6)]) (tt := tYes) rfl sc_want_round.nd rfl rfl (sw_true rfl rfl rfl (by decide +kernel)) (kk (K := K) (F := fun K => iTup K _) (P := PI _ _ _) (pi_tup (pv 2))) (blkOk_by (own := [("hand", 4), ("box", 5), ("deed", 6)]) (N := ["k", "board", "asks", "hands", "hand", "box", "deed"]) (sc := defScope s_want_round) (by decide +kernel)) (fun _ _ _ _ _ => (kk (K := K) (F := fun K => gTup K 3 _) (P := PG _ _) (pg_tup rfl (pgs_cons (pg_name (i := 4) sc_want_round.nd rfl (Or.inl rfl)) (pgs_cons (pg_name (i := 5) sc_want_round.nd rfl (Or.inl rfl)) (pgs_cons (pg_name (i := 6) sc_want_round.nd rfl (Or.inl rfl)) pgs_nil)))))) (fun _ _ _ _ _ => pts_nil) (fun _ _ _ _ _ => (pv 4)))
    (pss_one (ps_if (PW.pt (pw_or (pt_cmpR op_lt (kk (K := K) (F := fun K => RZ.tLenSetI K _) (P := PE _ _) (RZ.pe_lenSetI rfl B.len_ rfl B.set_ (pv 3))) (pe_callB (lenK (K := K)) (by rfl) B.len_ (by decide +kernel) (pa_cons (pv 3) pa_nil)) (nomark _)) (pw_or1 (pt_not (pt_val (pe_callB (kk (K := K) (F := rAll) (P := CallR _ _) (cr_all rfl)) (by rfl) B.all_ (by decide +kernel) (pa_cons (pe_lc (own := [("hand", 4)]) (g := gName 4) (tt := tYes) rfl sc_want_round.nd (kk (K := K) (F := fun K => iList K _) (P := PI _ _ _) (pi_list (pv 3))) (blkOk_by (own := [("hand", 4)]) (N := ["k", "board", "asks", "hands", "hand", "box", "deed"]) (sc := defScope s_want_round) (by decide +kernel)) (fun _ _ _ _ _ => (pg_name (i := 4) sc_want_round.nd rfl (Or.inl rfl))) (fun _ _ _ _ _ => pts_nil) (fun _ _ _ _ _ => (pe_cmpR op_lt (pv 4) (pe_op op_shlW pe_int (pv 0)) (nomark _)))) pa_nil)))))))
     (pss_one ps_never)
     pss_nil))))), ?_⟩)
  · obtain ⟨k, b, A, bs, as, rfl, _⟩ := h; rfl
  · obtain ⟨k, b, A, bs, as, rfl, hk, hb, hA, nd, hh, q⟩ := h
    try walk_at "go"
    intro H1 S1
    have hA1 := hA.same S1
    have at1 := hA1.1
    have h40 := hA1.2.1
    try walk_at "go"
    intro D hD
    refine lc_tup (K := K) (a := A) (xs := as.map fun x => V.ref x.a) (fun i H' => Kept (Same H1 H' ∧ H' D = some (.lst (((as.map fun x => x.hand).take i).map V.int)))) ⟨same_new hD _, upd_same⟩ (fun i H' _ h => SqT.of (h.ex.1 _ _ at1)) ?_ ?_
    · rintro i v H2 hv ⟨S2, hD2⟩
      rw [List.getElem?_map] at hv
      obtain ⟨x, hx, rfl⟩ := Option.map_eq_some_iff.mp hv
      have hi : i < as.length := (List.getElem?_eq_some_iff.mp hx).1
      obtain ⟨xa, xd, x0, x16, xb⟩ := (hA1.2.2 x (List.mem_of_getElem? hx)).same S2
      have ul : (((as.map fun x => x.hand).take i).map V.int).length ≤ 100 := by rw [List.length_map, List.length_take]; omega
      have e9 : (as.map fun x => x.hand)[i]? = some x.hand := by rw [List.getElem?_map, hx] <;> rfl
      try walk_at "go"
      exact ⟨⟨but_same hD S2 But.upd, by rw [upd_same, take_snoc e9, List.map_append] <;> rfl⟩⟩
    rintro H2 ⟨S2, hD2⟩
    rw [List.length_map, show (as.map fun x => x.hand).take as.length = as.map fun x => x.hand from List.take_of_length_le (by rw [List.length_map]; exact Nat.le_refl _)] at hD2
    have l4 : (as.map fun x => x.hand).length ≤ 4000 := by rw [List.length_map]; omega
    try walk_at "go"
    refine ifF (decide_eq_false (by simp only [List.length_map]; omega)) ?_
    try walk_at "go"
    intro E hE
    have sh : CShl 1 (k : Int) := shl_ok (by omega)
    refine lc_list (K := K) (a := D) (xs := (as.map fun x => x.hand).map V.int) (fun i H' => Kept (Same H2 H' ∧ H' E = some (.lst ((List.replicate i true).map V.bl)))) ⟨same_new hE _, upd_same⟩ (fun i H' _ h => SqL.of (h.ex.1 _ _ hD2)) ?_ ?_
    · rintro i v H3 hv ⟨S3, hE3⟩
      rw [List.getElem?_map, List.getElem?_map] at hv
      obtain ⟨y, hy, rfl⟩ := Option.map_eq_some_iff.mp hv
      obtain ⟨x, hx, rfl⟩ := Option.map_eq_some_iff.mp hy
      have hi : i < as.length := (List.getElem?_eq_some_iff.mp hx).1
      obtain ⟨xa, xd, x0, x16, xb⟩ := hA1.2.2 x (List.mem_of_getElem? hx)
      have hx2 := hh x (List.mem_of_getElem? hx)
      have ul : ((List.replicate i true).map V.bl).length ≤ 100 := by rw [rep_len]; omega
      have dx : (fun i j : Int => V.bl (decide (i < j))) x.hand (1 * 2 ^ ((k : Nat) : Int).toNat) = V.bl true := by
        rw [shl_2k]
        exact congrArg V.bl (decide_eq_true (by omega))
      try walk_at "go"
      rw [dx]
      exact ⟨⟨but_same hE S3 But.upd, by rw [upd_same, rep_snoc]⟩⟩
    rintro H3 ⟨S3, hE3⟩
    try walk_at "go"
    rw [rep_all]
    refine ifF rfl ?_
    try walk_at "go"
    exact q H3 (S1.trans (S2.trans S3))
def cnts (n : Nat) (xs : List Int) : List Int := (List.range n).map fun i : Nat => ((xs.count (i : Int) : Nat) : Int)
omit B in
theorem cnts_len {n : Nat} {xs : List Int} : (cnts n xs).length = n := by unfold cnts; rw [List.length_map, List.length_range]
omit B in
theorem cnts_at {n j : Nat} {xs : List Int} (h : j < n) : (cnts n xs)[j]? = some ((xs.count (j : Int) : Nat) : Int) := by unfold cnts; rw [List.getElem?_map, List.getElem?_range h] <;> rfl
omit B in
theorem cnts_snoc {n j : Nat} {xs : List Int} (h : j < n) : cnts n (xs ++ [(j : Int)]) = (cnts n xs).set j (((xs.count (j : Int) : Nat) : Int) + 1) := by
  refine List.ext_getElem? fun i => ?_
  by_cases hi : i < n
  · rw [cnts_at hi, List.getElem?_set, List.count_append]
    by_cases e : j = i
    · subst e
      rw [if_pos rfl, if_pos (by rw [cnts_len]; exact hi), List.count_singleton_self]
      congr 1
    · rw [if_neg e, cnts_at hi, List.count_singleton, if_neg (by simp; omega), Nat.add_zero]
  · rw [List.getElem?_eq_none (by rw [cnts_len]; omega), List.getElem?_eq_none (by rw [List.length_set, cnts_len]; omega)]
omit B in
theorem cnts_nil {n : Nat} : (List.replicate n [V.int 0]).flatten = (cnts n []).map V.int := by
  unfold cnts
  rw [List.map_map]
  induction n with
  | zero => rfl
  | succ m ih => rw [List.replicate_succ', List.flatten_append, ih, List.range_succ, List.map_append] <;> rfl
def spLoad (K : PySem.W.Frag) : Sp := fun vs H Q _ => ∃ (k : Nat) (L : Addr) (xs : List Int), vs = [.int k, .ref L] ∧ k ≤ 4 ∧ H L = some (.lst (xs.map V.int)) ∧ xs.length ≤ 40 ∧ (∀ x ∈ xs, 0 ≤ x ∧ x < ((2 ^ k : Nat) : Int)) ∧ ∀ T H', Same H H' → H' T = some (.tup ((cnts (2 ^ k) xs).map V.int)) → Q (.ref T) H'
theorem k_load_row (D : Df K mg "load_row" s_load_row ["k", "lines"]) : Dn P w K mg base 1 "load_row" ["k", "lines"] (spLoad K) := by
  refine D.ok fun f fd F => okG0 F sc_load_row (fun vs H Q E h => ?_) (fun cdv A outer s H vs Q E hr h => ⟨_, (pss_cons (ps_set (i := 2) sc_load_row.nd rfl (Or.inl rfl) (pe_op op_rep (pe_lst (pa_cons pe_int pa_nil)) (pe_op op_shlW pe_int (pv 0))))
    (pss_cons (ps_for PassesOwn.never rfl (kk (K := K) (F := fun K => iList K _) (P := PI _ _ _) (pi_list (pv 1))) (pg_name (i := 3) sc_load_row.nd rfl (Or.inl rfl))
      (pss_one (ps_asg (pe_op op_add (pe_ix (kk (K := K) (F := rIxL) (P := IxR _) ix_list) (pv 2) (pv 3) (fun _ _ => rfl)) pe_int) (pg_sub (pv 2) (pv 3) set_list))))
    (pss_one (ps_ret (pe_callTy (tupOfK (K := K)) (by rfl) B.tuple_ (by decide +kernel) (pa_cons (pv 2) pa_nil)))))), ?_⟩)
  · obtain ⟨k, L, xs, rfl, _⟩ := h; rfl
  · obtain ⟨k, L, xs, rfl, hk, hL, h40, hx, q⟩ := h
    have sh : CShl 1 (k : Int) := shl_ok (by omega)
    have l16 := two_k16 hk
    try walk_at "go"
    intro P hP
    generalize eH1 : upd _ P _ = H1
    have SH1 := newS eH1 hP
    have oP := newO eH1
    have eL : (1 : Int) * 2 ^ ((k : Nat) : Int).toNat = ((2 ^ k : Nat) : Int) := shl_2k
    have eR : (List.replicate (2 ^ k) [V.int 0]).flatten = (cnts (2 ^ k) []).map V.int := cnts_nil
    try walk_at "go"
    rw [eL, Int.toNat_natCast, eR]
    intro F hF
    generalize eH2 : upd _ F _ = H2
    have SH2 := newS eH2 hF
    have oF := newO eH2
    have S2 := SH1.trans SH2
    have hL2 := S2 _ _ hL
    have hFn : H F = none := none_back SH1 hF
    have nLF : L ≠ F := fun z => by rw [← z, SH1 _ _ hL] at hF; cases hF
    try walk_at "go"
    refine for_list (K := K) (a := L) (xs := xs.map V.int) (fun i σ H' => Kept (∃ w3 : Option V, σ = [some (.int (k : Nat)), some (.ref L), some (.ref F), w3] ∧ Same H H' ∧ H' F = some (.lst ((cnts (2 ^ k) (xs.take i)).map V.int)))) ⟨_, rfl, S2, oF⟩ (fun i σ H' _ h => by obtain ⟨_, _, b, _⟩ := h.ex; exact SqL.of (b _ _ hL)) ?_ ?_
    · rintro i v σ H3 hv ⟨w3, rfl, S3, hF3⟩
      rw [List.getElem?_map] at hv
      obtain ⟨x, hxi, rfl⟩ := Option.map_eq_some_iff.mp hv
      obtain ⟨b0, b1⟩ := hx x (List.mem_of_getElem? hxi)
      obtain ⟨j, rfl⟩ : ∃ j : Nat, x = (j : Int) := ⟨x.toNat, by omega⟩
      have hj : j < 2 ^ k := by omega
      have cl : ((cnts (2 ^ k) (xs.take i)).map V.int).length = 2 ^ k := by rw [List.length_map, cnts_len]
      have aj : atI ((cnts (2 ^ k) (xs.take i)).map V.int) (j : Int) = some (.int (((xs.take i).count (j : Int) : Nat) : Int)) := atI_nat (by rw [List.getElem?_map, cnts_at hj] <;> rfl)
      have ixj : ixN ((cnts (2 ^ k) (xs.take i)).map V.int).length (j : Int) = some j := ixn (by rw [cl]; exact hj)
      try walk_at "go"
      generalize eH4 : upd H3 F (HO.lst (((cnts (2 ^ k) (xs.take i)).map V.int).set j (.int ((((xs.take i).count (j : Int) : Nat) : Int) + 1)))) = H4
      have BH4 : But F H3 H4 := eH4 ▸ But.upd
      have oH4 : H4 F = some (HO.lst (((cnts (2 ^ k) (xs.take i)).map V.int).set j (.int ((((xs.take i).count (j : Int) : Nat) : Int) + 1)))) := eH4 ▸ upd_same
      refine ⟨⟨_, rfl, but_same hFn S3 BH4, ?_⟩⟩
      rw [oH4, take_snoc hxi, cnts_snoc hj, List.map_set]
    rintro σ H3 ⟨w3, rfl, S3, hF3⟩
    rw [List.length_map, List.take_length] at hF3
    try walk_at "go"
    intro T hT
    generalize eH4 : upd _ T _ = H4
    have SH4 := newS eH4 hT
    have oT := newO eH4
    exact q T H4 (S3.trans SH4) oT
/-! SPLIT -/
/-- a round that is one -/
structure RnAt (H : Hp) (k : Nat) (b A : Addr) (bs : List Int) (as : List Ak) : Prop where
  bd : BoardAt H b bs
  ak : AsksAt H A as bs.length
  nd : (as.map fun x => x.hand).Nodup
  hd : ∀ x ∈ as, x.hand.toNat < 2 ^ k
omit B in
theorem RnAt.same {H H' : Hp} {k : Nat} {b A : Addr} {bs : List Int} {as : List Ak} (h : RnAt H k b A bs as) (e : Same H H') : RnAt H' k b A bs as := ⟨h.bd.same e, h.ak.same e, h.nd, h.hd⟩
omit B in
theorem RnAt.in_ {H : Hp} {k : Nat} {b A : Addr} {bs : List Int} {as : List Ak} (h : RnAt H k b A bs as) : ∀ x ∈ as, x.hand.toNat < 2 ^ k ∧ x.box < bs.length := fun x hx => ⟨h.hd x hx, (h.ak.2.2 x hx).2.2.2.2⟩
def plL (k : Nat) (as : List Ak) (lv : Nat) : List Int := as.map fun x => low k x.hand.toNat (x.box % 2 ^ k) lv
def jnL (k : Nat) (as : List Ak) (lv : Nat) : List Int := (lvl k (fun _ _ => 0) as lv).map (lnC k lv)
/-- loads as told -/
def LdAt (H : Hp) (T : Addr) (f : Nat → List Int) (n : Nat) : Prop := ∃ ls : List (Addr × List Int), H T = some (.tup (ls.map fun x => V.ref x.1)) ∧ (∀ x ∈ ls, H x.1 = some (.tup (x.2.map V.int))) ∧ ls.map (fun x => x.2) = (List.range n).map f
omit B in
theorem LdAt.same {H H' : Hp} {T : Addr} {f : Nat → List Int} {n : Nat} (h : LdAt H T f n) (e : Same H H') : LdAt H' T f n := by
  obtain ⟨ls, h1, h2, h3⟩ := h
  exact ⟨ls, e _ _ h1, fun x hx => e _ _ (h2 x hx), h3⟩
omit B in
theorem low_rng {k h g lv : Nat} (hk : k ≤ 4) (hh : h < 2 ^ k) (hg : g < 2 ^ k) (hl : lv ≤ k) : 0 ≤ low k h g lv ∧ low k h g lv < ((2 ^ k : Nat) : Int) := by
  obtain ⟨e1, e2⟩ := low_nat (k := k) (h := h) (g := g) (j := lv) (by omega) hh hg hl
  omega
def spPlainL (K : PySem.W.Frag) : Sp := fun vs H Q _ => ∃ (k : Nat) (b A : Addr) (bs : List Int) (as : List Ak), vs = [.int k, .ref b, .ref A] ∧ k ≤ 4 ∧ RnAt H k b A bs as ∧ ∀ T H', Same H H' → LdAt H' T (fun lv => cnts (2 ^ k) (plL k as lv)) (k + 1) → Q (.ref T) H'
theorem k_plain_loads (D : Df K mg "plain_loads" s_plain_loads ["k", "board", "asks"]) (D_want_round : Dn P w K mg base 7 "want_round" ["k", "board", "asks"] (spWantRound K)) (D_line_on_way : Dn P w K mg base 1 "line_on_way" ["k", "hand", "goal", "level"] spLow) (D_side_of_box : Dn P w K mg base 1 "side_of_box" ["k", "box"] spSide) (D_load_row : Dn P w K mg base 1 "load_row" ["k", "lines"] (spLoad K)) : Dn P w K mg base 8 "plain_loads" ["k", "board", "asks"] (spPlainL K) := by
  refine D.ok fun f fd F => okG0 F sc_plain_loads (fun vs H Q E h => ?_) (fun cdv A outer s H vs Q E hr h => ⟨_, (pss_cons (ps_expr (pe_cD D_want_round (hr.less (by decide)) rfl (pa_cons (pv 0) (pa_cons (pv 1) (pa_cons (pv 2) pa_nil)))))
    (pss_cons (ps_set (i := 3) sc_plain_loads.nd rfl (Or.inl rfl) (pe_lst pa_nil))
    (pss_cons (ps_for PassesOwn.never rfl (pi_range1 (by rfl) B.range_ (pa_cons (pe_op op_add (pv 0) pe_int) pa_nil)) (pg_name (i := 4) sc_plain_loads.nd rfl (Or.inr rfl))
      (pss_cons (ps_setLc (i := 5) (own := [("hand", 6), ("box", 7), ("deed", 8)]) (tt := tYes) rfl sc_plain_loads.nd rfl rfl (sw_true rfl rfl rfl (by decide +kernel)) (kk (K := K) (F := fun K => iTup K _) (P := PI _ _ _) (pi_tup (pv 2))) (blkOk_by (own := [("hand", 6), ("box", 7), ("deed", 8)]) (N := ["k", "board", "asks", "found", "level", "lines", "hand", "box", "deed"]) (sc := defScope s_plain_loads) (by decide +kernel)) (fun _ _ _ _ _ => (kk (K := K) (F := fun K => gTup K 3 _) (P := PG _ _) (pg_tup rfl (pgs_cons (pg_name (i := 6) sc_plain_loads.nd rfl (Or.inl rfl)) (pgs_cons (pg_name (i := 7) sc_plain_loads.nd rfl (Or.inl rfl)) (pgs_cons (pg_name (i := 8) sc_plain_loads.nd rfl (Or.inl rfl)) pgs_nil)))))) (fun _ _ _ _ _ => pts_nil) (fun _ _ _ _ _ => (pe_cD D_line_on_way (hr.less (by decide)) rfl (pa_cons (pv 0) (pa_cons (pv 6) (pa_cons (pe_cD D_side_of_box (hr.less (by decide)) rfl (pa_cons (pv 0) (pa_cons (pv 7) pa_nil))) (pa_cons (pv 4) pa_nil)))))))
      (pss_one (ps_expr (kk (K := K) (F := fun K => tBM K "list" _ _ _) (P := PE _ _) (pe_bm PySem.F.plainAttrs_list PySem.F.slot_list_append PySem.F.type_list_append mt_append (pv 3) (pa_cons (pe_cD D_load_row (hr.less (by decide)) rfl (pa_cons (pv 0) (pa_cons (pv 5) pa_nil))) pa_nil)))))))
    (pss_one (ps_ret (pe_callTy (tupOfK (K := K)) (by rfl) B.tuple_ (by decide +kernel) (pa_cons (pv 3) pa_nil))))))), ?_⟩)
  · obtain ⟨k, b, A, bs, as, rfl, _⟩ := h; rfl
  · obtain ⟨k, b, A, bs, as, rfl, hk, hr, q⟩ := h
    have hb := hr.bd
    have hA := hr.ak
    have nd := hr.nd
    have hh := hr.hd
    have h40 := hA.2.1
    try walk_at "go"
    intro H1 S1
    have hA1 := hA.same S1
    have at1 := hA1.1
    try walk_at "go"
    intro F hF
    generalize eH2 : upd _ F _ = H2
    have SH2 := newS eH2 hF
    have oF := newO eH2
    try walk_at "go"
    have tk : (((k : Nat) : Int) + 1).toNat = k + 1 := by omega
    rw [tk]
    refine for_range (lo := 0) (n := k + 1) (fun i σ H' => Kept (∃ (ls : List (Addr × List Int)) (w4 w5 w6 w7 w8 : Option V), σ = [some (.int (k : Nat)), some (.ref b), some (.ref A), some (.ref F), w4, w5, w6, w7, w8] ∧ Same H1 H' ∧ H' F = some (.lst (ls.map fun x => V.ref x.1)) ∧ (∀ x ∈ ls, H' x.1 = some (.tup (x.2.map V.int))) ∧ ls.length = i ∧ ls.map (fun x => x.2) = (List.range i).map fun lv => cnts (2 ^ k) (plL k as lv))) ⟨[], _, _, _, _, _, rfl, SH2, oF, fun x hx => absurd hx List.not_mem_nil, rfl, rfl⟩ ?_ ?_
    · rintro i σ H3 hi ⟨ls, w4, w5, w6, w7, w8, rfl, S3, hF3, rw3, ll3, eq3⟩
      have e0 : (0 : Int) + (i : Int) = (i : Int) := Int.zero_add _
      rw [e0]
      have hA3 := hA1.same S3
      have at3 := hA3.1
      have ul : (ls.map fun x => V.ref x.1).length ≤ 100 := by rw [List.length_map]; omega
      try walk_at "go"
      intro D hD
      refine lc_tup (K := K) (a := A) (xs := as.map fun x => V.ref x.a) (fun j H' => Kept (Same H3 H' ∧ H' D = some (.lst (((plL k as i).take j).map V.int)))) ⟨same_new hD _, upd_same⟩ (fun j H' _ h => SqT.of (h.ex.1 _ _ at3)) ?_ ?_
      · rintro j v H4 hv ⟨S4, hD4⟩
        rw [List.getElem?_map] at hv
        obtain ⟨x, hx, rfl⟩ := Option.map_eq_some_iff.mp hv
        have hj : j < as.length := (List.getElem?_eq_some_iff.mp hx).1
        obtain ⟨xa, xd, x0, x16, xb⟩ := (hA3.2.2 x (List.mem_of_getElem? hx)).same S4
        have hx2 := hh x (List.mem_of_getElem? hx)
        have eh : x.hand = ((x.hand.toNat : Nat) : Int) := (Int.toNat_of_nonneg x0).symm
        have xa : H4 x.a = some (.tup [.int ((x.hand.toNat : Nat) : Int), .int (x.box : Nat), .ref x.da]) := by rw [← eh]; exact xa
        have gl : x.box % 2 ^ k < 2 ^ k := Nat.mod_lt _ (Nat.two_pow_pos k)
        have u2 : (((plL k as i).take j).map V.int).length ≤ 100 := by unfold plL; rw [List.length_map, List.length_take, List.length_map]; omega
        have e9 : (plL k as i)[j]? = some (low k x.hand.toNat (x.box % 2 ^ k) i) := by unfold plL; rw [List.getElem?_map, hx] <;> rfl
        try walk_at "go"
        exact ⟨⟨but_same hD S4 But.upd, by rw [upd_same, take_snoc e9, List.map_append] <;> rfl⟩⟩
      rintro H4 ⟨S4, hD4⟩
      have pl : (plL k as i).length = as.length := by unfold plL; rw [List.length_map]
      rw [List.length_map, show (plL k as i).take as.length = plL k as i from List.take_of_length_le (by omega)] at hD4
      have pr : ∀ x ∈ plL k as i, 0 ≤ x ∧ x < ((2 ^ k : Nat) : Int) := fun y hy => by
        obtain ⟨x, hx, rfl⟩ := List.mem_map.mp hy
        exact low_rng hk (hh x hx) (Nat.mod_lt _ (Nat.two_pow_pos k)) (by omega)
      have pl40 : (plL k as i).length ≤ 40 := by omega
      have hF4 := S4 _ _ hF3
      try walk_at "go"
      intro R H5 S5 hR
      have hF5 := S5 _ _ hF4
      try walk_at "go"
      have tkk : ∀ t xs, H5 t = some (.tup xs) → upd H5 F (.lst ((ls.map fun x => V.ref x.1) ++ [.ref R])) t = some (.tup xs) := fun t xs z => by rw [upd_ne (ne_of z hF5 (by intro w; cases w))]; exact z
      refine ⟨⟨ls ++ [(R, cnts (2 ^ k) (plL k as i))], _, _, _, _, _, rfl, but_same hF (S3.trans (S4.trans S5)) But.upd, by rw [upd_same, List.map_append] <;> rfl, fun x hx => ?_, by rw [List.length_append, ll3] <;> rfl, by rw [List.map_append, eq3, List.range_succ, List.map_append] <;> rfl⟩⟩
      rcases List.mem_append.mp hx with z | z
      · exact tkk _ _ ((S4.trans S5) _ _ (rw3 x z))
      · cases List.mem_singleton.mp z
        exact tkk _ _ hR
    rintro σ H3 ⟨ls, w4, w5, w6, w7, w8, rfl, S3, hF3, rw3, ll3, eq3⟩
    try walk_at "go"
    intro T hT
    generalize eH4 : upd _ T _ = H4
    have SH4 := newS eH4 hT
    have oT := newO eH4
    exact q T H4 (S1.trans (S3.trans SH4)) ⟨ls, oT, fun x hx => SH4 _ _ (rw3 x hx), eq3⟩
def spJoinedL (K : PySem.W.Frag) : Sp := fun vs H Q _ => ∃ (k : Nat) (b A : Addr) (bs : List Int) (as : List Ak), vs = [.int k, .ref b, .ref A] ∧ k ≤ 4 ∧ RnAt H k b A bs as ∧ ∀ T H', Same H H' → LdAt H' T (fun lv => cnts (2 ^ k) (jnL k as lv)) (k + 1) → Q (.ref T) H'
theorem k_joined_loads (D : Df K mg "joined_loads" s_joined_loads ["k", "board", "asks"]) (D_want_round : Dn P w K mg base 7 "want_round" ["k", "board", "asks"] (spWantRound K)) (D_straight : Dn P w K mg base 4 "straight" ["k"] (spStraight K)) (D_gone : Dn P w K mg base 6 "gone" ["k", "asks", "firsts"] (spGone K (cAt mg "Carried"))) (D_line_of : Dn P w K mg base 2 "line_of" ["k", "one", "level"] (spLineOf K (cAt mg "Carried"))) (D_load_row : Dn P w K mg base 1 "load_row" ["k", "lines"] (spLoad K)) : Dn P w K mg base 9 "joined_loads" ["k", "board", "asks"] (spJoinedL K) := by
  refine D.ok fun f fd F => okG0 F sc_joined_loads (fun vs H Q E h => ?_) (fun cdv A outer s H vs Q E hr h => ⟨_, (pss_cons (ps_expr (pe_cD D_want_round (hr.less (by decide)) rfl (pa_cons (pv 0) (pa_cons (pv 1) (pa_cons (pv 2) pa_nil)))))
    (pss_cons (ps_set (i := 3) sc_joined_loads.nd rfl (Or.inl rfl) (pe_ix (kk (K := K) (F := rIxT) (P := IxR _) ix_tup) (pe_cD D_gone (hr.less (by decide)) rfl (pa_cons (pv 0) (pa_cons (pv 2) (pa_cons (pe_cD D_straight (hr.less (by decide)) rfl (pa_cons (pv 0) pa_nil)) pa_nil)))) pe_int (fun _ _ => rfl)))
    (pss_one (ps_ret (pe_callTy (tupOfK (K := K)) (by rfl) B.tuple_ (by decide +kernel) (pa_cons (pe_lc (own := [("level", 4), ("row", 5)]) (tt := tYes) rfl sc_joined_loads.nd (kk (K := K) (F := fun K => iEnum K _) (P := PI _ _ _) (pi_enum (by rfl) B.enumerate_ (pa_cons (pv 3) pa_nil))) (blkOk_by (own := [("level", 4), ("row", 5)]) (N := ["k", "board", "asks", "levels", "level", "row", "one"]) (sc := defScope s_joined_loads) (by decide +kernel)) (fun _ _ _ _ _ => (kk (K := K) (F := fun K => gTup K 2 _) (P := PG _ _) (pg_tup rfl (pgs_cons (pg_name (i := 4) sc_joined_loads.nd rfl (Or.inr rfl)) (pgs_cons (pg_name (i := 5) sc_joined_loads.nd rfl (Or.inl rfl)) pgs_nil))))) (fun _ _ _ _ _ => pts_nil) (fun _ _ _ _ _ => (pe_cD D_load_row (hr.less (by decide)) rfl (pa_cons (pv 0) (pa_cons (pe_lc (own := [("one", 6)]) (g := gName 6) (tt := tYes) rfl sc_joined_loads.nd (kk (K := K) (F := fun K => iList K _) (P := PI _ _ _) (pi_list (pv 5))) (blkOk_nest (own := [("one", 6)]) (N := ["k", "board", "asks", "levels", "level", "row", "one"]) rfl (by decide +kernel)) (fun _ _ _ _ _ => (pg_name (i := 6) sc_joined_loads.nd rfl (Or.inl rfl))) (fun _ _ _ _ _ => pts_nil) (fun _ _ _ _ _ => (pe_cD D_line_of (hr.less (by decide)) rfl (pa_cons (pv 0) (pa_cons (pv 6) (pa_cons (pv 4) pa_nil)))))) pa_nil))))) pa_nil)))))), ?_⟩)
  · obtain ⟨k, b, A, bs, as, rfl, _⟩ := h; rfl
  · obtain ⟨k, b, A, bs, as, rfl, hk, hr, q⟩ := h
    have hb := hr.bd
    have hA := hr.ak
    have nd := hr.nd
    have hh := hr.hd
    have hin := hr.in_
    have h40 := hA.2.1
    try walk_at "go"
    intro H1 S1
    have hA1 := hA.same S1
    try walk_at "go"
    intro T1 H2 S2 hT1
    have hA2 := hA1.same S2
    try walk_at "go"
    intro U D M H3 S3 oU lv3 mm3
    obtain ⟨rs, hD3, lr3, rr3⟩ := lv3
    try walk_at "go"
    intro E hE
    refine lc_enum (K := K) (a := D) (xs := rs.map fun x => V.ref x.1) (fun i H' => Kept (∃ ls : List (Addr × List Int), Same H3 H' ∧ H' E = some (.lst (ls.map fun x => V.ref x.1)) ∧ (∀ x ∈ ls, H' x.1 = some (.tup (x.2.map V.int))) ∧ ls.length = i ∧ ls.map (fun x => x.2) = (List.range i).map fun lv => cnts (2 ^ k) (jnL k as lv))) ⟨[], same_new hE _, upd_same, fun x hx => absurd hx List.not_mem_nil, rfl, rfl⟩ (fun i H' _ h => by obtain ⟨_, S, _⟩ := h.ex; exact SqL.of (S _ _ hD3)) ?_ ?_
    · rintro i v P H4 hv ⟨ls, S4, hE4, rw4, ll4, eq4⟩ hP
      rw [List.getElem?_map] at hv
      obtain ⟨⟨R, L⟩, hx, rfl⟩ := Option.map_eq_some_iff.mp hv
      have hi : i < rs.length := (List.getElem?_eq_some_iff.mp hx).1
      obtain ⟨r1, r2, r3⟩ := rr3 i _ hx
      dsimp only at r1 r2 r3
      generalize eH5 : upd _ P (HO.tup [.int (i : Nat), .ref R]) = H5
      have SH5 := newS eH5 hP
      have oP := newO eH5
      have hR5 := SH5 _ _ (S4 _ _ r1)
      have cL5 := (r3.same S4).same SH5
      have l40 : L.length ≤ 40 := by
        have h1 := congrArg List.length r2
        have h2 := lvl_len (k := k) (s := fun _ _ => 0) (as := as) i
        rw [List.length_map] at h1
        omega
      have ul : (ls.map fun x => V.ref x.1).length ≤ 100 := by rw [List.length_map]; omega
      try walk_at "go"
      intro G hG
      refine lc_list (K := K) (a := R) (xs := L.map fun y => V.ref y.1) (fun j H' => Kept (Same H5 H' ∧ H' G = some (.lst (((L.map fun y => lnC k i y.2).take j).map V.int)))) ⟨same_new hG _, upd_same⟩ (fun j H' _ h => SqL.of (h.ex.1 _ _ hR5)) ?_ ?_
      · rintro j v H6 hv ⟨S6, hG6⟩
        rw [List.getElem?_map] at hv
        obtain ⟨⟨p, c⟩, hy, rfl⟩ := Option.map_eq_some_iff.mp hv
        have hj : j < L.length := (List.getElem?_eq_some_iff.mp hy).1
        have cr := (cL5 _ (List.mem_of_getElem? hy)).same S6
        have u2 : (((L.map fun y => lnC k i y.2).take j).map V.int).length ≤ 100 := by rw [List.length_map, List.length_take, List.length_map]; omega
        have e9 : (L.map fun y => lnC k i y.2)[j]? = some (lnC k i c) := by rw [List.getElem?_map, hy] <;> rfl
        try walk_at "go"
        exact ⟨⟨but_same hG S6 But.upd, by rw [upd_same, take_snoc e9, List.map_append] <;> rfl⟩⟩
      rintro H6 ⟨S6, hG6⟩
      have ej : (L.map fun y => lnC k i y.2) = jnL k as i := by
        unfold jnL
        rw [← r2, List.map_map] <;> rfl
      rw [List.length_map, show (L.map fun y => lnC k i y.2).take L.length = L.map fun y => lnC k i y.2 from List.take_of_length_le (by rw [List.length_map]; exact Nat.le_refl _), ej] at hG6
      have pr : ∀ x ∈ jnL k as i, 0 ≤ x ∧ x < ((2 ^ k : Nat) : Int) := fun y hy => by
        obtain ⟨c, hc, rfl⟩ := List.mem_map.mp hy
        obtain ⟨c1, c2⟩ := (lvl_in (s := fun _ _ => 0) hin i c hc).hd
        exact low_rng hk c1 goal_lt (by omega)
      have pl40 : (jnL k as i).length ≤ 40 := by rw [← ej, List.length_map]; exact l40
      have hE6 := S6 _ _ (SH5 _ _ hE4)
      try walk_at "go"
      intro W H7 S7 hW
      have hE7 := S7 _ _ hE6
      try walk_at "go"
      have tkk : ∀ t xs, H7 t = some (.tup xs) → upd H7 E (.lst ((ls.map fun x => V.ref x.1) ++ [.ref W])) t = some (.tup xs) := fun t xs z => by rw [upd_ne (ne_of z hE7 (by intro w; cases w))]; exact z
      have S57 := S6.trans S7
      refine ⟨⟨ls ++ [(W, cnts (2 ^ k) (jnL k as i))], but_same hE (S4.trans (SH5.trans S57)) But.upd, by rw [upd_same, List.map_append] <;> rfl, fun x hx => ?_, by rw [List.length_append, ll4] <;> rfl, by rw [List.map_append, eq4, List.range_succ, List.map_append] <;> rfl⟩⟩
      rcases List.mem_append.mp hx with z | z
      · exact tkk _ _ (S57 _ _ (SH5 _ _ (rw4 x z)))
      · cases List.mem_singleton.mp z
        exact tkk _ _ hW
    rintro H4 ⟨ls, S4, hE4, rw4, ll4, eq4⟩
    rw [List.length_map, lr3] at eq4
    try walk_at "go"
    intro T hT
    generalize eH5 : upd _ T _ = H5
    have SH5 := newS eH5 hT
    have oT := newO eH5
    exact q T H5 (S1.trans (S2.trans (S3.trans (S4.trans SH5)))) ⟨ls, oT, fun x hx => SH5 _ _ (rw4 x hx), eq4⟩
/-! SPLIT -/
def spRich (K : PySem.W.Frag) : Sp := fun vs H Q _ => ∃ (c : Int) (tn : Nat), vs = [.int c, .int tn] ∧ tn ≤ 100000 ∧ ∀ n H', Same H H' → 0 ≤ n → Q (.int n) H'
theorem k__law_rich (D : Df K mg "_law_rich" s__law_rich ["_law_cell", "_law_turn"]) : Dn P w K mg base 1 "_law_rich" ["_law_cell", "_law_turn"] (spRich K) := by
  refine D.ok fun f fd F => okG0 F sc__law_rich (fun vs H Q E h => ?_) (fun cdv A outer s H vs Q E hr h => ⟨_, (pss_cons (ps_set (i := 2) sc__law_rich.nd rfl (Or.inl rfl) pe_int)
    (pss_cons (ps_for PassesOwn.never rfl (kk (K := K) (F := fun K => iEnumT K _) (P := PI _ _ _) (pi_enumT (by rfl) B.enumerate_ (pa_cons (pe_tup (pa_cons pe_int (pa_cons pe_int (pa_cons pe_int (pa_cons pe_int (pa_cons pe_int (pa_cons pe_int pa_nil))))))) pa_nil))) (kk (K := K) (F := fun K => gTup K 2 _) (P := PG _ _) (pg_tup rfl (pgs_cons (pg_name (i := 3) sc__law_rich.nd rfl (Or.inl rfl)) (pgs_cons (pg_name (i := 4) sc__law_rich.nd rfl (Or.inl rfl)) pgs_nil))))
      (pss_cons (ps_set (i := 5) sc__law_rich.nd rfl (Or.inl rfl) (pe_op op_mod (pe_op op_mulX (pe_op op_add (pe_op op_mod (pe_callB call_abs (by rfl) B.abs_ (by decide +kernel) (pa_cons (pv 0) pa_nil)) (pv 4)) pe_int) (pe_op op_add (pe_op op_add (pe_op op_mulX pe_int (pv 1)) (pe_op op_mulX pe_int (pv 3))) pe_int)) (pv 4)))
      (pss_one (ps_set (i := 2) sc__law_rich.nd rfl (Or.inl rfl) (pe_op op_add (pe_op op_mulX (pv 2) (pv 4)) (pe_op op_mod (pe_op op_add (pe_op op_add (pe_op op_pow (pv 5) pe_int) (pe_op op_mulX pe_int (pv 5))) (pv 3)) (pv 4)))))))
    (pss_one (ps_ret (pv 2))))), ?_⟩)
  · obtain ⟨c, tn, rfl, _⟩ := h; rfl
  · obtain ⟨c, tn, rfl, ht, q⟩ := h
    refine ⟨sz, fun t ht2 => ⟨t, _, rfl, SqT.of upd_same, ?_⟩⟩
    have S1 := same_new ht2 (.tup [.int 2147483647, .int 2147483629, .int 2147483587, .int 2147483579, .int 2147483563, .int 2147483549])
    refine for_enumT (K := K) (a := t) (xs := [.int 2147483647, .int 2147483629, .int 2147483587, .int 2147483579, .int 2147483563, .int 2147483549]) (fun i σ H2 => ∃ (f : Int) (v3 v4 v5 : Option V), σ = [some (.int c), some (.int tn), some (.int f), v3, v4, v5] ∧ Same H H2 ∧ H2 t = some (.tup [.int 2147483647, .int 2147483629, .int 2147483587, .int 2147483579, .int 2147483563, .int 2147483549]) ∧ 0 ≤ f ∧ f < 2 ^ (32 * i + 1)) ⟨1, none, none, none, rfl, S1, upd_same, by decide, by decide⟩ (fun i σ H2 _ h => by obtain ⟨_, _, _, _, _, _, h2, _⟩ := h; exact SqT.of h2) ?_ ?_
    · rintro i y T σ H2 hi ⟨f, v3, v4, v5, rfl, S2, ht3, f0, f1⟩ hT
      obtain ⟨z, hz, z0, z1⟩ := primes6 i (by have := (List.getElem?_eq_some_iff.mp hi).1; exact this)
      rw [hz] at hi
      cases (Option.some.inj hi)
      have hi6 : i < 6 := (List.getElem?_eq_some_iff.mp hz).1
      have f2 : f < 2 ^ 200 := Int.lt_of_lt_of_le f1 ((by decide : ∀ i, i < 6 → (2 : Int) ^ (32 * i + 1) ≤ 2 ^ 200) i hi6)
      have m1 := Int.emod_nonneg (if c < 0 then -c else c) (by omega : z ≠ 0)
      have m2 := Int.emod_lt_of_pos (if c < 0 then -c else c) (by omega : 0 < z)
      have S3 := same_new hT (.tup [.int i, .int z])
      refine ⟨T, _, rfl, SqT.of upd_same, rfl, _, _, rfl, _, _, rfl, rfl, ?_⟩
      refine ⟨_, rfl, _, rfl, _, rfl, _, _, rfl, rfl, by omega, _, _, rfl, rfl, ?_⟩
      refine ⟨_, rfl, _, _, rfl, rfl, mulx 3 20 (by decide) (by omega), _, rfl, _, _, rfl, rfl, mulx 20 3 (by decide) (by omega), _, _, rfl, rfl, _, _, rfl, rfl, _, _, rfl, rfl, mulx 33 30 (by omega) (by omega), _, rfl, _, _, rfl, rfl, by omega, ?_⟩
      have g1 := Int.emod_nonneg (((if c < 0 then -c else c) % z + 1) * (7 * (tn : Int) + 1000003 * (i : Int) + 139)) (by omega : z ≠ 0)
      have g2 := Int.emod_lt_of_pos (((if c < 0 then -c else c) % z + 1) * (7 * (tn : Int) + 1000003 * (i : Int) + 139)) (by omega : 0 < z)
      obtain ⟨sd, hsd⟩ : ∃ sd : Int, sd = (((if c < 0 then -c else c) % z + 1) * (7 * (tn : Int) + 1000003 * (i : Int) + 139)) % z := ⟨_, rfl⟩
      rw [← hsd] at g1 g2
      refine ⟨_, rfl, _, rfl, _, _, rfl, rfl, mulx 200 32 (by omega) (by omega), _, rfl, _, _, rfl, rfl, ⟨by decide, by decide, by omega⟩, _, rfl, _, _, rfl, rfl, mulx 16 32 (by decide) (by omega), _, _, rfl, rfl, _, rfl, _, _, rfl, rfl, _, rfl, _, _, rfl, rfl, by omega, _, _, rfl, rfl, ?_⟩
      have e1 := Int.emod_nonneg (sd ^ Int.toNat 5 + 40693 * sd + (i : Int)) (by omega : z ≠ 0)
      have e2 := Int.emod_lt_of_pos (sd ^ Int.toNat 5 + 40693 * sd + (i : Int)) (by omega : 0 < z)
      have e3 : 0 ≤ f * z := Int.mul_nonneg f0 (by omega)
      have e4 : f * z ≤ f * 2147483647 := Int.mul_le_mul_of_nonneg_left z1 f0
      have e5 : (2 : Int) ^ (32 * (i + 1) + 1) = 2 ^ (32 * i + 1) * 2 ^ 32 := by rw [← Int.pow_add]; exact congrArg (fun n : Nat => (2 : Int) ^ n) (by omega)
      rw [hsd] at e1 e2
      refine ⟨_, _, _, _, rfl, S2.trans S3, S3 _ _ ht3, by omega, ?_⟩
      rw [e5]
      omega
    · rintro σ H2 ⟨f, v3, v4, v5, rfl, S2, ht3, f0, f1⟩
      exact ⟨_, rfl, q f _ S2 f0⟩
def PurseAt (H : Hp) (p : Addr) (cap : Nat) : Prop := ∃ (a c : Int) (tn : Nat), H p = some (.lst [.int a, .int c, .int tn]) ∧ 0 ≤ a ∧ tn ≤ cap
theorem PurseAt.same {H H' : Hp} {p : Addr} {n : Nat} (e : Same H H') (h : PurseAt H p n) : PurseAt H' p n := by
  obtain ⟨a, c, t, h1, h2⟩ := h; exact ⟨a, c, t, e _ _ h1, h2⟩
theorem PurseAt.upd {H : Hp} {p D : Addr} {o : HO} {n : Nat} (e : p ≠ D) (h : PurseAt H p n) : PurseAt (L2.upd H D o) p n := by
  obtain ⟨a, c, t, h1, h2⟩ := h; exact ⟨a, c, t, by rw [upd_ne e]; exact h1, h2⟩
theorem purse_ne {H : Hp} {p a : Addr} {n : Nat} (h : PurseAt H p n) (m : H a = none) : a ≠ p := fun z => by obtain ⟨_, _, _, h1, _⟩ := h; rw [← z, m] at h1; cases h1
def spPurse (K : PySem.W.Frag) : Sp := fun vs H Q _ => ∃ (a : Addr) (ns : List Int) (k : Nat), vs = [.ref a, .int k] ∧ SqL K H a (ns.map V.int) ∧ k ≤ 60 ∧ ∀ p H', H p = none → Same H H' → PurseAt H' p 60 → Q (.ref p) H'
theorem k__law_purse (D : Df K mg "_law_purse" s__law_purse ["_law_script", "_law_k"]) : Dn P w K mg base 1 "_law_purse" ["_law_script", "_law_k"] (spPurse K) := by
  refine D.ok fun f fd F => okG0 F sc__law_purse (fun vs H Q E h => ?_) (fun cdv A outer s H vs Q E hr h => ⟨_, (pss_cons (ps_set (i := 2) sc__law_purse.nd rfl (Or.inl rfl) (pe_ifExp (pt_cmpR op_lt (pv 1) (pe_callB (lenK (K := K)) (by rfl) B.len_ (by decide +kernel) (pa_cons (pv 0) pa_nil)) (nomark _)) (pe_ix (kk (K := K) (F := rIxL) (P := IxR _) ix_list) (pv 0) (pv 1) (fun _ _ => rfl)) pe_int))
    (pss_one (ps_ret (pe_lst (pa_cons (pe_callB (call_max2 rfl) (by rfl) B.max_ (by decide +kernel) (pa_cons pe_int (pa_cons (pe_op op_sub (pv 2) (pe_op op_pow pe_int pe_int)) pa_nil))) (pa_cons (pv 2) (pa_cons (pv 1) pa_nil))))))), ?_⟩)
  · obtain ⟨a, ns, k, rfl, _⟩ := h; rfl
  · obtain ⟨a, ns, k, rfl, hs, hk, q⟩ := h
    refine ⟨_, rfl, _, rfl, a, _, rfl, .inl hs, _, _, rfl, rfl, _, rfl, ?_⟩
    refine ifE (fun v H' => H' = H ∧ ∃ c : Int, v = .int c) ?_ (fun c Q' q' => ?_) (fun c Q' q' => q' _ _ ⟨rfl, 0, rfl⟩)
    · rintro _ _ ⟨rfl, c, rfl⟩
      refine ⟨_, rfl, _, _, rfl, rfl, ⟨by decide, by decide, by decide⟩, _, _, rfl, rfl, _, _, rfl, _, rfl, _, rfl, sz, fun p hp => ?_⟩
      refine q p _ hp (same_new hp _) ⟨_, _, _, upd_same, ?_, hk⟩
      split <;> omega
    · have c' : (k : Int) < ((ns.map V.int).length : Nat) := of_decide_eq_true c
      have hk2 : k < ns.length := by rw [List.length_map] at c'; omega
      refine ⟨_, rfl, _, rfl, a, _, _, _, rfl, rfl, hs, at_of (j := k) rfl (by rw [List.getElem?_map, List.getElem?_eq_getElem hk2] <;> rfl), ?_⟩
      exact q' _ _ ⟨rfl, _, rfl⟩
def spTakeP (K : PySem.W.Frag) : Sp := fun vs H Q _ => ∃ (p : Addr) (m : Int) (cap : Nat), vs = [.ref p, .int m] ∧ PurseAt H p cap ∧ cap ≤ 90000 ∧ 1 ≤ m ∧ m < 2 ^ 200 ∧ ∀ (d : Int) H', 0 ≤ d → d < m → But p H H' → PurseAt H' p (cap + 64) → Q (.int d) H'
theorem k__law_take (D : Df K mg "_law_take" s__law_take ["_law_purse_here", "_law_many"]) (D__law_rich : Dn P w K mg base 1 "_law_rich" ["_law_cell", "_law_turn"] (spRich K)) : Dn P w K mg base 2 "_law_take" ["_law_purse_here", "_law_many"] (spTakeP K) := by
  refine D.ok fun f fd F => okG0 F sc__law_take (fun vs H Q E h => ?_) (fun cdv A outer s H vs Q E hr h => ⟨_, (pss_cons (ps_if (pt_cmpR op_eq (pe_ix (kk (K := K) (F := rIxL) (P := IxR _) ix_list) (pv 0) pe_int (fun _ _ => rfl)) pe_int (nomark _))
      (pss_cons (ps_asg (pe_cD D__law_rich (hr.less (by decide)) rfl (pa_cons (pe_ix (kk (K := K) (F := rIxL) (P := IxR _) ix_list) (pv 0) pe_int (fun _ _ => rfl)) (pa_cons (pe_ix (kk (K := K) (F := rIxL) (P := IxR _) ix_list) (pv 0) pe_int (fun _ _ => rfl)) pa_nil))) (pg_sub (pv 0) pe_int set_list))
      (pss_one (ps_asg (pe_op op_add (pe_ix (kk (K := K) (F := rIxL) (P := IxR _) ix_list) (pv 0) pe_int (fun _ _ => rfl)) pe_int) (pg_sub (pv 0) pe_int set_list))))
      pss_nil)
    (pss_cons (ps_set (i := 2) sc__law_take.nd rfl (Or.inl rfl) (pe_op op_mod (pe_ix (kk (K := K) (F := rIxL) (P := IxR _) ix_list) (pv 0) pe_int (fun _ _ => rfl)) (pv 1)))
    (pss_cons (ps_asg (pe_op op_fdivW (pe_ix (kk (K := K) (F := rIxL) (P := IxR _) ix_list) (pv 0) pe_int (fun _ _ => rfl)) (pv 1)) (pg_sub (pv 0) pe_int set_list))
    (pss_one (ps_ret (pv 2)))))), ?_⟩)
  · obtain ⟨p, m, cap, rfl, _⟩ := h; rfl
  · obtain ⟨p, m, cap, rfl, ⟨a, c, tn, hp, ha, ht⟩, hcap, hm, hm2, q⟩ := h
    have key : ∀ (a : Int) (tn : Nat) (H2 : Hp), But p H H2 → H2 p = some (.lst [.int a, .int c, .int tn]) → 0 ≤ a → tn ≤ cap + 64 → H2 p = some (.lst [.int a, .int c, .int tn]) ∧ PurseAt (upd H2 p (.lst [.int (a / m), .int c, .int tn])) p (cap + 64) ∧ But p H (upd H2 p (.lst [.int (a / m), .int c, .int tn])) ∧ 0 ≤ a % m ∧ a % m < m := by
      intro a tn H2 b h1 h2 h3
      refine ⟨h1, ⟨_, _, _, upd_same, Int.ediv_nonneg h2 (by omega), h3⟩, b.trans But.upd, Int.emod_nonneg _ (by omega), Int.emod_lt_of_pos _ (by omega)⟩
    refine ⟨_, rfl, p, _, _, _, rfl, rfl, SqL.of hp, at_of (j := 0) rfl rfl, rfl, _, rfl, ite2 (fun e => ?_) (fun e => ?_)⟩
    · refine ⟨_, rfl, p, _, _, _, rfl, rfl, SqL.of hp, at_of (j := 1) rfl rfl, _, rfl, p, _, _, _, rfl, rfl, SqL.of hp, at_of (j := 2) rfl rfl, c, tn, rfl, by omega, fun n H1 S1 n0 => ?_⟩
      have hp1 := S1 _ _ hp
      refine ⟨_, rfl, p, _, _, _, rfl, rfl, hp1, rfl, ?_⟩
      refine ⟨_, rfl, p, _, _, _, rfl, rfl, SqL.of upd_same, at_of (j := 2) rfl rfl, _, _, rfl, rfl, ?_⟩
      refine ⟨_, rfl, p, _, _, _, rfl, rfl, upd_same, rfl, ?_⟩
      obtain ⟨k1, k2, k3, k4, k5⟩ := key n (tn + 64) _ (((same_but S1).trans But.upd).trans But.upd) upd_same n0 (by omega)
      refine ⟨_, rfl, p, _, _, _, rfl, rfl, SqL.of k1, at_of (j := 0) rfl rfl, _, rfl, _, _, rfl, rfl, by omega, ?_⟩
      refine ⟨_, rfl, p, _, _, _, rfl, rfl, SqL.of k1, at_of (j := 0) rfl rfl, _, rfl, _, _, rfl, rfl, wide_div (b := 200) (by omega) (by omega) (by decide) (by decide), ?_⟩
      refine ⟨_, rfl, p, _, _, _, rfl, rfl, k1, rfl, _, rfl, ?_⟩
      exact q _ _ k4 k5 k3 k2
    · obtain ⟨k1, k2, k3, k4, k5⟩ := key a tn H (same_but (Same.refl H)) hp ha (by omega)
      refine ⟨_, rfl, p, _, _, _, rfl, rfl, SqL.of k1, at_of (j := 0) rfl rfl, _, rfl, _, _, rfl, rfl, by omega, ?_⟩
      refine ⟨_, rfl, p, _, _, _, rfl, rfl, SqL.of k1, at_of (j := 0) rfl rfl, _, rfl, _, _, rfl, rfl, wide_div (b := 200) (by omega) (by omega) (by decide) (by decide), ?_⟩
      refine ⟨_, rfl, p, _, _, _, rfl, rfl, k1, rfl, _, rfl, ?_⟩
      exact q _ _ k4 k5 k3 k2
/-! ### the law's own (k35) -/
omit B in
theorem num_figs : ∀ k, k < 5 → ∀ l, l < 2 ^ k → num (figs k l) = (l : Nat) := by decide +kernel
omit B in
theorem fig_set : ∀ k, k < 5 → ∀ l, l < 2 ^ k → ∀ j, j < k → 0 ≤ fig k l j ∧ fig k l j ≤ 1 := by decide +kernel
omit B in
theorem but_keep {p : Addr} {H H' : Hp} {cap : Nat} (b : But p H H') (hp : PurseAt H p cap) : ∀ t xs, H t = some (.tup xs) → H' t = some (.tup xs) := fun t xs e => by
  obtain ⟨_, _, _, h1, _⟩ := hp
  exact b _ _ (ne_of e h1 (by intro z; cases z)) e
omit B in
theorem SeAt.keep {H H' : Hp} {T : Addr} {k : Nat} {s : Nat → Nat → Int} (a : SeAt H T k s) (e : ∀ t xs, H t = some (.tup xs) → H' t = some (.tup xs)) : SeAt H' T k s := by
  obtain ⟨as, h1, h2, h3⟩ := a
  exact ⟨as, e _ _ h1, h2, fun j x hx => e _ _ (h3 j x hx)⟩
omit B in
theorem But.fr {p E : Addr} {H H1 : Hp} {o : HO} (b : But p H H1) (hE : H E = none) : But p H (L2.upd H1 E o) := fun x u n h => by rw [upd_ne (ne_of_none h hE)]; exact b x u n h
/-- one row more -/
def ext (s : Nat → Nat → Int) (i : Nat) (bs : List Int) : Nat → Nat → Int := fun j n => if j = i then bs.getD n 0 else s j n
omit B in
theorem row_ext {k i : Nat} {s : Nat → Nat → Int} {bs : List Int} (h : bs.length = 2 ^ (k - 1)) : row k (ext s i bs) i = bs := by
  refine List.ext_getElem? fun n => ?_
  unfold row
  rw [List.getElem?_map]
  by_cases c : n < 2 ^ (k - 1)
  · rw [List.getElem?_range c]
    show some (ext s i bs i n) = _
    unfold ext
    rw [if_pos rfl, List.getD_eq_getElem?_getD, List.getElem?_eq_getElem (by omega)] <;> rfl
  · rw [List.getElem?_eq_none (by rw [List.length_range]; omega), List.getElem?_eq_none (by omega)] <;> rfl
omit B in
theorem row_ext_ne {k i j : Nat} {s : Nat → Nat → Int} {bs : List Int} (h : j ≠ i) : row k (ext s i bs) j = row k s j := by
  unfold row
  refine List.map_congr_left fun m _ => ?_
  unfold ext
  rw [if_neg h]
omit B in
theorem ext_bt {i : Nat} {s : Nat → Nat → Int} {bs : List Int} (h : Bt s) (hb : ∀ x ∈ bs, x = 0 ∨ x = 1) : Bt (ext s i bs) := fun j n => by
  unfold ext
  split
  · rw [List.getD_eq_getElem?_getD]
    by_cases c : n < bs.length
    · rw [List.getElem?_eq_getElem c]
      exact hb _ (List.getElem_mem c)
    · rw [List.getElem?_eq_none (by omega)]
      exact .inl rfl
  · exact h j n
def spSettS (K : PySem.W.Frag) : Sp := fun vs H Q _ => ∃ (p : Addr) (k cap : Nat), vs = [.ref p, .int k] ∧ k ≤ 4 ∧ PurseAt H p cap ∧ cap ≤ 10000 ∧ ∀ T (s : Tbl) H', But p H H' → PurseAt H' p (cap + 64 * 64) → SeAt H' T k s → Bt s → Q (.ref T) H'
theorem k__law_settings (D : Df K mg "_law_settings" s__law_settings ["_law_purse_here", "_law_k"]) (D__law_take : Dn P w K mg base 2 "_law_take" ["_law_purse_here", "_law_many"] (spTakeP K)) : Dn P w K mg base 3 "_law_settings" ["_law_purse_here", "_law_k"] (spSettS K) := by
  refine D.ok fun f fd F => okG0 F sc__law_settings (fun vs H Q E h => ?_) (fun cdv A outer s H vs Q E hr h => ⟨_, (pss_cons (ps_set (i := 2) sc__law_settings.nd rfl (Or.inl rfl) (pe_lst pa_nil))
    (pss_cons (ps_for PassesOwn.never rfl (pi_range1 (by rfl) B.range_ (pa_cons (pv 1) pa_nil)) (pg_name (i := 3) sc__law_settings.nd rfl (Or.inl rfl))
      (pss_one (ps_expr (kk (K := K) (F := fun K => tBM K "list" _ _ _) (P := PE _ _) (pe_bm PySem.F.plainAttrs_list PySem.F.slot_list_append PySem.F.type_list_append mt_append (pv 2) (pa_cons (pe_callTy (tupOfK (K := K)) (by rfl) B.tuple_ (by decide +kernel) (pa_cons (pe_lc (own := [("_law_number", 4)]) (g := gName 4) (tt := tYes) rfl sc__law_settings.nd (pi_range1 (by rfl) B.range_ (pa_cons (pe_op op_shlW pe_int (pe_op op_sub (pv 1) pe_int)) pa_nil)) (blkOk_by (own := [("_law_number", 4)]) (N := ["_law_purse_here", "_law_k", "_law_rows", "_law_stage", "_law_number"]) (sc := defScope s__law_settings) (by decide +kernel)) (fun _ _ _ _ _ => (pg_name (i := 4) sc__law_settings.nd rfl (Or.inl rfl))) (fun _ _ _ _ _ => pts_nil) (fun _ _ _ _ _ => (pe_cD D__law_take (hr.less (by decide)) rfl (pa_cons (pv 0) (pa_cons pe_int pa_nil))))) pa_nil)) pa_nil))))))
    (pss_one (ps_ret (pe_callTy (tupOfK (K := K)) (by rfl) B.tuple_ (by decide +kernel) (pa_cons (pv 2) pa_nil)))))), ?_⟩)
  · obtain ⟨p, k, cap, rfl, _⟩ := h; rfl
  · obtain ⟨p, k, cap, rfl, hk, hp, hc, q⟩ := h
    try walk_at "go"
    intro D hD
    generalize eH1 : upd _ D _ = H1
    have SH1 := newS eH1 hD
    have oD := newO eH1
    have npD : p ≠ D := Ne.symm (purse_ne B hp hD)
    have hp1 := PurseAt.same B SH1 hp
    try walk_at "go"
    have e5 : ((k : Nat) : Int).toNat = k := by omega
    rw [e5]
    refine for_range (lo := 0) (n := k) (fun i σ H' => Kept (∃ w3 w4 s, ∃ rs : List Addr, σ = [some (.ref p), some (.int (k : Nat)), some (.ref D), w3, w4] ∧ But p H H' ∧ PurseAt H' p (cap + 64 * 8 * i) ∧ H' D = some (.lst (rs.map V.ref)) ∧ rs.length = i ∧ Bt s ∧ ∀ (j : Nat) (r : Addr), rs[j]? = some r → H' r = some (.tup ((row k s j).map V.int)))) ⟨_, _, fun _ _ => 0, [], rfl, same_but SH1, hp1, oD, rfl, fun _ _ => .inl rfl, fun j r h => by simp at h⟩ ?_ ?_
    · rintro i σ H2 hi ⟨w3, w4, s, rs, rfl, B2, hp2, hD2, hrl, hb, hrs⟩
      have e1 : (k : Int) - 1 = ((k - 1 : Nat) : Int) := by omega
      have hsh : CShl 1 ((k : Int) - 1) := by rw [e1]; exact shl_ok (by omega)
      have eL : (1 : Int) * 2 ^ (((k : Nat) : Int) - 1).toNat = ((2 ^ (k - 1) : Nat) : Int) := by rw [Int.one_mul, e1, Int.toNat_natCast]; push_cast; rfl
      have e8 : 2 ^ (k - 1) ≤ 8 := (Nat.pow_le_pow_right (by decide) (by omega) : 2 ^ (k - 1) ≤ 2 ^ 3)
      have ul : (rs.map V.ref).length ≤ 16 := by rw [List.length_map]; omega
      try walk_at "go"
      intro E hE
      rw [eL, Int.toNat_natCast]
      refine lc_range (lo := 0) (n := 2 ^ (k - 1)) (fun j H' => Kept (∃ bs : List Int, But p H2 H' ∧ PurseAt H' p (cap + 64 * 8 * i + 64 * j) ∧ H' E = some (.lst (bs.map V.int)) ∧ bs.length = j ∧ ∀ x ∈ bs, x = 0 ∨ x = 1)) ⟨[], same_but (same_new hE _), PurseAt.same B (same_new hE _) hp2, upd_same, rfl, fun x hx => absurd hx List.not_mem_nil⟩ ?_ ?_
      · rintro j H3 hj ⟨bs, B3, hp3, hE3, hbl, hb3⟩
        try walk_at "go"
        intro d H4 d0 d1 b4 p4
        have npE : p ≠ E := Ne.symm (purse_ne B hp2 hE)
        have hE4 := b4 _ _ (Ne.symm npE) hE3
        have bl : (bs.map V.int).length ≤ 16 := by rw [List.length_map]; omega
        try walk_at "go"
        obtain ⟨a, c, tn, h1, h2, h3⟩ := p4
        refine ⟨⟨bs ++ [d], (B3.trans b4).fr hE, ⟨a, c, tn, by rw [upd_ne npE]; exact h1, h2, by omega⟩, by rw [upd_same, List.map_append] <;> rfl, by rw [List.length_append, hbl] <;> rfl, fun x hx => ?_⟩⟩
        rcases List.mem_append.mp hx with z | z
        · exact hb3 x z
        · rw [List.mem_singleton.mp z]; omega
      · rintro H3 ⟨bs, B3, hp3, hE3, hbl, hb3⟩
        try walk_at "go"
        intro U hU
        generalize eH4 : upd _ U _ = H4
        have SH4 := newS eH4 hU
        have oU := newO eH4
        have hD4 := SH4 _ _ (B3 _ _ (Ne.symm npD) hD2)
        try walk_at "go"
        obtain ⟨a, c, tn, h1, h2, h3⟩ := hp3
        have k2 := but_keep B3 hp2
        have tk : ∀ r xs, H4 r = some (.tup xs) → upd H4 D (.lst (rs.map V.ref ++ [.ref U])) r = some (.tup xs) := fun r xs e => by rw [upd_ne (ne_of e hD4 (by intro z; cases z))]; exact e
        refine ⟨⟨_, _, ext s i bs, rs ++ [U], rfl, (B2.trans (B3.trans (same_but SH4))).fr hD, ⟨a, c, tn, by rw [upd_ne npD]; exact SH4 _ _ h1, h2, by omega⟩, by rw [upd_same, List.map_append] <;> rfl, by rw [List.length_append, hrl] <;> rfl, ext_bt hb hb3, fun j r hr => ?_⟩⟩
        by_cases cc : j < rs.length
        · rw [List.getElem?_append_left cc] at hr
          rw [row_ext_ne (by omega)]
          exact tk _ _ (SH4 _ _ (k2 _ _ (hrs j r hr)))
        · rw [List.getElem?_append_right (by omega)] at hr
          have hj : j = i := by
            have := (List.getElem?_eq_some_iff.mp hr).1
            have h5 : [U].length = 1 := rfl
            omega
          subst hj
          rw [hrl, Nat.sub_self] at hr
          cases (Option.some.inj hr)
          rw [row_ext hbl]
          exact tk _ _ oU
    · rintro σ H2 ⟨w3, w4, s, rs, rfl, B2, hp2, hD2, hrl, hb, hrs⟩
      try walk_at "go"
      intro U hU
      generalize eH3 : upd _ U _ = H3
      have SH3 := newS eH3 hU
      have oU := newO eH3
      obtain ⟨a, c, tn, h1, h2, h3⟩ := hp2
      exact q U s _ (B2.trans (same_but SH3)) ⟨a, c, tn, SH3 _ _ h1, h2, by omega⟩ ⟨rs, oU, hrl, fun j r hr => SH3 _ _ (hrs j r hr)⟩ hb
omit B in
theorem erase_map {α β : Type} {f : α → β} : ∀ {xs : List α} {i : Nat}, (xs.map f).eraseIdx i = (xs.eraseIdx i).map f
  | [], _ => rfl
  | _ :: _, 0 => rfl
  | x :: xs, i + 1 => by
    show f x :: (xs.map f).eraseIdx i = f x :: (xs.eraseIdx i).map f
    rw [erase_map]
omit B in
theorem erase_perm {α : Type} : ∀ {ls : List α} {j : Nat} {x : α}, ls[j]? = some x → (x :: ls.eraseIdx j).Perm ls
  | [], _, _, h => by simp at h
  | a :: ls, 0, x, h => by
    cases (Option.some.inj h)
    exact List.Perm.refl _
  | a :: ls, j + 1, x, h => by
    have ih := erase_perm (ls := ls) (j := j) (x := x) (by simpa using h)
    exact (List.Perm.swap a x _).trans (List.Perm.cons a ih)
/-- what stays while a row is mixed -/
def MixI (H : Hp) (p L0 L D : Addr) (cap : Nat) (ts : List Int) (m : Nat) (σ : L2.St) (H' : Hp) : Prop := ∃ ls us : List Int, σ = [some (.ref p), some (.ref L0), some (.ref L), some (.ref D)] ∧ But p H H' ∧ PurseAt H' p (cap + 64 * us.length) ∧ H' L = some (.lst (ls.map V.int)) ∧ H' D = some (.lst (us.map V.int)) ∧ (us ++ ls).Perm ts ∧ m = ls.length
/-! SPLIT -/
omit B in
theorem sdl_of {k : Nat} {ss : List Nat} (h : ss.length = 2 ^ k) : sdl k (fun i => ss.getD i 0) = ss := by
  refine List.ext_getElem? fun n => ?_
  unfold sdl
  rw [List.getElem?_map]
  by_cases c : n < 2 ^ k
  · rw [List.getElem?_range c]
    show some (ss.getD n 0) = _
    rw [List.getD_eq_getElem?_getD, List.getElem?_eq_getElem (by omega)] <;> rfl
  · rw [List.getElem?_eq_none (by rw [List.length_range]; omega), List.getElem?_eq_none (by omega)] <;> rfl
omit B in
theorem prs_at {k j : Nat} {g : Nat → Nat} (h : j < 2 ^ k) : (prs k g)[j]? = some (j, g j) := by
  unfold prs
  rw [List.getElem?_map, List.getElem?_range h] <;> rfl
omit B in
theorem prs_len {k : Nat} {g : Nat → Nat} : (prs k g).length = 2 ^ k := by unfold prs; rw [List.length_map, List.length_range]
/-! SPLIT -/
omit B in
theorem rg_nat {m : Nat} : rgV 0 (m : Int) = ((List.range m).map fun i : Nat => (i : Int)).map V.int := by
  unfold rgV
  rw [List.map_map, Int.sub_zero, Int.toNat_natCast]
  refine List.map_congr_left fun i _ => ?_
  show V.int (0 + (i : Int)) = V.int (i : Int)
  rw [Int.zero_add]
omit B in
theorem nat_us {us : List Int} (h : ∀ x ∈ us, 0 ≤ x) : us.map V.int = nV (us.map Int.toNat) := by
  unfold nV
  rw [List.map_map]
  refine List.map_congr_left fun x hx => ?_
  show V.int x = V.int ((x.toNat : Nat) : Int)
  rw [Int.toNat_of_nonneg (h x hx)]
omit B in
theorem nV_at {ss : List Nat} {x : Nat} (h : x < ss.length) : atI (nV ss) (x : Int) = some (.int (ss[x] : Nat)) := atI_nat (by unfold nV; rw [List.getElem?_map, List.getElem?_eq_getElem h] <;> rfl)
omit B in
theorem nV_set {ss : List Nat} {x n : Nat} : (nV ss).set x (.int (n : Nat)) = nV (ss.set x n) := by unfold nV; rw [List.map_set]
omit B in
theorem but_fr {p E : Addr} {H H1 H2 : Hp} (b : But p H H1) (hE : H E = none) (c : But E H1 H2) : But p H H2 := fun x u n h => c _ _ (ne_of_none h hE) (b x u n h)
def spSidesP (K : PySem.W.Frag) : Sp := fun vs H Q _ => ∃ (p : Addr) (k cap : Nat), vs = [.ref p, .int k] ∧ k ≤ 4 ∧ PurseAt H p cap ∧ cap ≤ 5000 ∧ ∀ L g H', But p H H' → PurseAt H' p (cap + 64 * 90) → H' L = some (.lst (nV (sdl k g))) → Gd k g → H L = none → Q (.ref L) H'
theorem k__law_sides (D : Df K mg "_law_sides" s__law_sides ["_law_purse_here", "_law_k"]) (D__law_take : Dn P w K mg base 2 "_law_take" ["_law_purse_here", "_law_many"] (spTakeP K)) (D__law_settings : Dn P w K mg base 3 "_law_settings" ["_law_purse_here", "_law_k"] (spSettS K)) (D_led : Dn P w K mg base 6 "led" ["k", "settings"] (spLedP K)) : Dn P w K mg base 8 "_law_sides" ["_law_purse_here", "_law_k"] (spSidesP K) := by
  refine D.ok fun f fd F => okG0 F sc__law_sides (fun vs H Q E h => ?_) (fun cdv A outer s H vs Q E hr h => ⟨_, (pss_cons (ps_set (i := 2) sc__law_sides.nd rfl (Or.inl rfl) (pe_cD D__law_take (hr.less (by decide)) rfl (pa_cons (pv 0) (pa_cons pe_int pa_nil))))
    (pss_cons (ps_set (i := 3) sc__law_sides.nd rfl (Or.inr rfl) (pe_op op_shlW pe_int (pv 1)))
    (pss_cons (ps_set (i := 4) sc__law_sides.nd rfl (Or.inl rfl) (pe_callTy (lstOfK (K := K)) (by rfl) B.list_ (by decide +kernel) (pa_cons (pe_cD D_led (hr.less (by decide)) rfl (pa_cons (pv 1) (pa_cons (pe_cD D__law_settings (hr.less (by decide)) rfl (pa_cons (pv 0) (pa_cons (pv 1) pa_nil))) pa_nil))) pa_nil)))
    (pss_cons (ps_if (pt_cmpR op_eq (pv 2) pe_int (nomark _))
      (pss_one (ps_ret (pe_lc (own := [("_law_hand", 7)]) (g := gName 7) (tt := tYes) rfl sc__law_sides.nd (pi_range1 (by rfl) B.range_ (pa_cons (pv 3) pa_nil)) (blkOk_by (own := [("_law_hand", 7)]) (N := ["_law_purse_here", "_law_k", "_law_turn", "_law_many", "_law_found", "_law_one", "_law_other", "_law_hand"]) (sc := defScope s__law_sides) (by decide +kernel)) (fun _ _ _ _ _ => (pg_name (i := 7) sc__law_sides.nd rfl (Or.inl rfl))) (fun _ _ _ _ _ => pts_nil) (fun _ _ _ _ _ => (pe_cD D__law_take (hr.less (by decide)) rfl (pa_cons (pv 0) (pa_cons (pv 3) pa_nil)))))))
      pss_nil)
    (pss_cons (ps_par (i := 5) (j := 6) rfl sc__law_sides.nd rfl rfl (by decide) rfl rfl (pa_cons (pe_cD D__law_take (hr.less (by decide)) rfl (pa_cons (pv 0) (pa_cons (pv 3) pa_nil))) (pa_cons (pe_cD D__law_take (hr.less (by decide)) rfl (pa_cons (pv 0) (pa_cons (pv 3) pa_nil))) pa_nil)) (by rfl))
    (pss_cons (ps_if (pt_cmpR op_eq (pv 2) pe_int (nomark _))
      (pss_one (ps_asg (pe_tup (pa_cons (pe_ix (kk (K := K) (F := rIxL) (P := IxR _) ix_list) (pv 4) (pv 6) (fun _ _ => rfl)) (pa_cons (pe_ix (kk (K := K) (F := rIxL) (P := IxR _) ix_list) (pv 4) (pv 5) (fun _ _ => rfl)) pa_nil))) (kk (K := K) (F := fun K => gTup K 2 _) (P := PG _ _) (pg_tup rfl (pgs_cons (pg_sub (pv 4) (pv 5) set_list) (pgs_cons (pg_sub (pv 4) (pv 6) set_list) pgs_nil))))))
      pss_nil)
    (pss_cons (ps_if (pt_cmpR op_eq (pv 2) pe_int (nomark _))
      (pss_one (ps_asg (pv 6) (pg_sub (pv 4) (pv 5) set_list)))
      pss_nil)
    (pss_one (ps_ret (pv 4)))))))))), ?_⟩)
  · obtain ⟨p, k, cap, rfl, _⟩ := h; rfl
  · obtain ⟨p, k, cap, rfl, hk, hp, hc, q⟩ := h
    have hsh : CShl 1 (k : Int) := shl_ok (by omega)
    have eL : (1 : Int) * 2 ^ ((k : Nat) : Int).toNat = ((2 ^ k : Nat) : Int) := by rw [Int.one_mul, Int.toNat_natCast]; push_cast; rfl
    have e16 : 2 ^ k ≤ 16 := (Nat.pow_le_pow_right (by decide) hk : 2 ^ k ≤ 2 ^ 4)
    have hw := Nat.two_pow_pos k
    have fin : ∀ L (ss : List Nat) H', But p H H' → PurseAt H' p (cap + 64 * 90) → H' L = some (.lst (nV ss)) → ss.length = 2 ^ k → (∀ x ∈ ss, x < 2 ^ k) → H L = none → Q (.ref L) H' := fun L ss H' b hp' hL hl hx hn => by
      refine q L (fun i => ss.getD i 0) H' b hp' (by rw [sdl_of hl]; exact hL) (fun i hi => ?_) hn
      show ss.getD i 0 < 2 ^ k
      rw [List.getD_eq_getElem?_getD, List.getElem?_eq_getElem (by omega)]
      exact hx _ (List.getElem_mem _)
    try walk_at "go"
    intro d H0 d0 d1 b0 p0
    try walk_at "go"
    intro T s H1 b01 p1 hS1 hb
    have b1 := b0.trans b01
    try walk_at "go"
    intro U H2 S2 hU
    have p2 := PurseAt.same B S2 p1
    try walk_at "go"
    intro F hF
    generalize eH3 : upd _ F _ = H3
    have SH3 := newS eH3 hF
    have oF := newO eH3
    have p3 := PurseAt.same B SH3 p2
    have npF := purse_ne B p2 hF
    have b3 : But p H H3 := b1.trans (same_but (S2.trans SH3))
    have e13 : (fun i j : Int => V.int (i * 2 ^ j.toNat)) 1 (k : Int) = V.int ((2 ^ k : Nat) : Int) := congrArg V.int eL
    rw [e13]
    generalize hm : 2 ^ k = m at *
    try walk_at "go"
    refine ite2 (fun c => ?_) (fun c => ?_)
    · try walk_at "go"
      intro E hE
      have npE0 : p ≠ E := Ne.symm (purse_ne B p3 hE)
      have hEn : H E = none := by
        cases z : H E with
        | none => rfl
        | some o =>
          have := b3 _ _ (Ne.symm npE0) z
          rw [hE] at this
          cases this
      rw [Int.toNat_natCast]
      refine lc_range (lo := 0) (n := m) (fun j H' => Kept (∃ ss : List Nat, But p H H' ∧ PurseAt H' p (cap + 64 + 64 * 64 + 64 * j) ∧ H' E = some (.lst (nV ss)) ∧ ss.length = j ∧ ∀ x ∈ ss, x < m)) ⟨[], b3.trans (same_but (same_new hE _)), PurseAt.same B (same_new hE _) p3, upd_same, rfl, fun x hx => absurd hx List.not_mem_nil⟩ ?_ ?_
      · rintro j H4 hj ⟨ss, B4, p4, hE4, hl4, hs4⟩
        try walk_at "go"
        intro e H5 d0 d1 b5 p5
        have npE : p ≠ E := Ne.symm (purse_ne B p3 hE)
        have hE5 := b5 _ _ (Ne.symm npE) hE4
        obtain ⟨e, rfl⟩ : ∃ x : Nat, e = (x : Int) := ⟨e.toNat, by omega⟩
        have bl : (nV ss).length ≤ 16 := by unfold nV; rw [List.length_map]; omega
        try walk_at "go"
        obtain ⟨a, c, tn, h1, h2, h3⟩ := p5
        refine ⟨⟨ss ++ [e], (B4.trans b5).fr hEn, ⟨a, c, tn, by rw [upd_ne npE]; exact h1, h2, by omega⟩, by rw [upd_same, nV_snoc], by rw [List.length_append, hl4] <;> rfl, fun x hx => ?_⟩⟩
        rcases List.mem_append.mp hx with z | z
        · exact hs4 x z
        · rw [List.mem_singleton.mp z]; omega
      · rintro H4 ⟨ss, B4, ⟨a, c, tn, h1, h2, h3⟩, hE4, hl4, hs4⟩
        exact fin E ss H4 B4 ⟨a, c, tn, h1, h2, by omega⟩ hE4 hl4 hs4 hEn
    try walk_at "go"
    intro o1 H4 d0 d1 b4 p4
    try walk_at "go"
    intro o2 H5 d20 d21 b5 p5
    obtain ⟨x, rfl⟩ : ∃ x : Nat, o1 = (x : Int) := ⟨o1.toNat, by omega⟩
    obtain ⟨y, rfl⟩ : ∃ y : Nat, o2 = (y : Int) := ⟨o2.toNat, by omega⟩
    have oF5 := b5 _ _ npF (b4 _ _ npF oF)
    have ssl : (sdl k fun h => la k s h k).length = m := by unfold sdl; rw [List.length_map, List.length_range, hm]
    have ssb : ∀ x ∈ (sdl k fun h => la k s h k), x < m := fun x hx => by
      obtain ⟨h, hh, rfl⟩ := List.mem_map.mp hx
      rw [← hm]
      exact la_in (by omega) hb (List.mem_range.mp hh) k (Nat.le_refl _)
    have hFn : H F = none := But.free b1 npF (none_back S2 hF)
    have b35 := b3.trans (b4.trans b5)
    generalize (sdl k fun h => la k s h k) = ss at oF5 ssl ssb
    have xm : x < m := by omega
    have ym : y < m := by omega
    have nl : (nV ss).length = m := by unfold nV; rw [List.length_map, ssl]
    have ax : atI (nV ss) (x : Int) = some (.int (ss[x]'(by omega) : Nat)) := nV_at (by omega)
    have ay : atI (nV ss) (y : Int) = some (.int (ss[y]'(by omega) : Nat)) := nV_at (by omega)
    have ix : ixN (nV ss).length (x : Int) = some x := ixn (by omega)
    have gx := ssb _ (List.getElem_mem (show x < ss.length by omega))
    have gy := ssb _ (List.getElem_mem (show y < ss.length by omega))
    generalize ss[x]'(by omega) = ex at ax gx
    generalize ss[y]'(by omega) = ey at ay gy
    try walk_at "go"
    refine ite2 (fun c3 => ?_) (fun c3 => ?_)
    · try walk_at "go"
      intro T2 hT2
      generalize eH6 : upd _ T2 _ = H6
      have SH6 := newS eH6 hT2
      have oT2 := newO eH6
      have oF6 := SH6 _ _ oF5
      try walk_at "go"
      generalize eH7 : upd H6 F (HO.lst ((nV ss).set x (.int (ey : Nat)))) = H7
      have BH7 : But F H6 H7 := eH7 ▸ But.upd
      have oH7 : H7 F = some (HO.lst ((nV ss).set x (.int (ey : Nat)))) := eH7 ▸ upd_same
      generalize eH8 : upd H7 F (HO.lst (((nV ss).set x (.int (ey : Nat))).set y (.int (ex : Nat)))) = H8
      have BH8 : But F H7 H8 := eH8 ▸ But.upd
      have oH8 : H8 F = some (HO.lst (((nV ss).set x (.int (ey : Nat))).set y (.int (ex : Nat)))) := eH8 ▸ upd_same
      refine ifF (by
        have : d = 2 := V.int.inj (of_decide_eq_true c3)
        subst this
        decide) ?_
      try walk_at "go"
      refine fin F ((ss.set x ey).set y ex) H8 (but_fr (but_fr (b35.trans (same_but SH6)) hFn BH7) hFn BH8) ?_ (by rw [oH8, nV_set, nV_set]) (by rw [List.length_set, List.length_set, ssl]) (fun z hz => ?_) hFn
      · obtain ⟨a, c, tn, h1, h2, h3⟩ := p5
        exact ⟨a, c, tn, BH8 _ _ (Ne.symm npF) (BH7 _ _ (Ne.symm npF) (SH6 _ _ h1)), h2, by omega⟩
      · rcases List.mem_or_eq_of_mem_set hz with w | w
        · rcases List.mem_or_eq_of_mem_set w with w2 | w2
          · exact ssb z w2
          · omega
        · omega
    try walk_at "go"
    refine ite2 (fun c4 => ?_) (fun c4 => ?_)
    · try walk_at "go"
      generalize eH6 : upd H5 F (HO.lst ((nV ss).set x (.int (y : Nat)))) = H6
      have BH6 : But F H5 H6 := eH6 ▸ But.upd
      have oH6 : H6 F = some (HO.lst ((nV ss).set x (.int (y : Nat)))) := eH6 ▸ upd_same
      refine fin F (ss.set x y) H6 (but_fr b35 hFn BH6) ?_ (by rw [oH6, nV_set]) (by rw [List.length_set, ssl]) (fun z hz => ?_) hFn
      · obtain ⟨a, c, tn, h1, h2, h3⟩ := p5
        exact ⟨a, c, tn, BH6 _ _ (Ne.symm npF) h1, h2, by omega⟩
      · rcases List.mem_or_eq_of_mem_set hz with w | w
        · exact ssb z w
        · omega
    try walk_at "go"
    refine fin F ss H5 b35 ?_ oF5 ssl ssb hFn
    obtain ⟨a, c, tn, h1, h2, h3⟩ := p5
    exact ⟨a, c, tn, h1, h2, by omega⟩
/-! SPLIT -/
/-- what stays while a row is mixed -/
def MixR (H : Hp) (p L0 L D : Addr) (cap : Nat) (ts : List Addr) (m : Nat) (σ : L2.St) (H' : Hp) : Prop := ∃ ls us : List Addr, σ = [some (.ref p), some (.ref L0), some (.ref L), some (.ref D)] ∧ But p H H' ∧ PurseAt H' p (cap + 64 * us.length) ∧ H' L = some (.lst (ls.map V.ref)) ∧ H' D = some (.lst (us.map V.ref)) ∧ (us ++ ls).Perm ts ∧ m = ls.length
def spMixR (K : PySem.W.Frag) : Sp := fun vs H Q _ => ∃ (p L0 : Addr) (cap : Nat) (ts : List Addr), vs = [.ref p, .ref L0] ∧ PurseAt H p cap ∧ cap ≤ 20000 ∧ H L0 = some (.lst (ts.map V.ref)) ∧ ts.length ≤ 16 ∧
  ∀ D (us : List Addr) H', But p H H' → PurseAt H' p (cap + 64 * 16) → H' D = some (.lst (us.map V.ref)) → us.Perm ts → H D = none → Q (.ref D) H'
theorem k__law_mixed (D : Df K mg "_law_mixed" s__law_mixed ["_law_purse_here", "_law_some"]) (D__law_take : Dn P w K mg base 2 "_law_take" ["_law_purse_here", "_law_many"] (spTakeP K)) : Dn P w K mg base 3 "_law_mixed" ["_law_purse_here", "_law_some"] (spMixR K) := by
  refine D.ok fun f fd F => okG0 F sc__law_mixed (fun vs H Q E h => ?_) (fun cdv A outer s H vs Q E hr h => ⟨_, (pss_cons (ps_set (i := 2) sc__law_mixed.nd rfl (Or.inl rfl) (pe_callTy (lstOfK (K := K)) (by rfl) B.list_ (by decide +kernel) (pa_cons (pv 1) pa_nil)))
    (pss_cons (ps_set (i := 3) sc__law_mixed.nd rfl (Or.inl rfl) (pe_lst pa_nil))
    (pss_cons (ps_while PassesOwn.never (pt_cmpR (kk (K := K) (F := rNeNil) (P := OpR _ _) (op_neNil hr.units)) (pv 2) (pe_lst pa_nil) (nomark _))
      (pss_one (ps_expr (kk (K := K) (F := fun K => tBM K "list" _ _ _) (P := PE _ _) (pe_bm PySem.F.plainAttrs_list PySem.F.slot_list_append PySem.F.type_list_append mt_append (pv 3) (pa_cons (kk (K := K) (F := fun K => tBM K "list" _ _ _) (P := PE _ _) (pe_bm PySem.F.plainAttrs_list PySem.F.slot_list_pop PySem.F.type_list_pop mt_popAt (pv 2) (pa_cons (pe_cD D__law_take (hr.less (by decide)) rfl (pa_cons (pv 0) (pa_cons (pe_callB (lenK (K := K)) (by rfl) B.len_ (by decide +kernel) (pa_cons (pv 2) pa_nil)) pa_nil))) pa_nil))) pa_nil))))))
    (pss_one (ps_ret (pv 3)))))), ?_⟩)
  · obtain ⟨p, L0, cap, ts, rfl, _⟩ := h; rfl
  · obtain ⟨p, L0, cap, ts, rfl, hp, hc, hL, hl, q⟩ := h
    try walk_at "go"
    intro L hL
    generalize eH1 : upd _ L _ = H1
    have SH1 := newS eH1 hL
    have oL := newO eH1
    have hL' := hL
    try walk_at "go"
    intro D hD
    generalize eH2 : upd _ D _ = H2
    have SH2 := newS eH2 hD
    have oD := newO eH2
    have nL : L ≠ D := ne_of_none oL hD
    have npL : p ≠ L := Ne.symm (purse_ne B hp hL)
    have hp2 := PurseAt.same B SH2 (PurseAt.same B SH1 hp)
    have nLp : L ≠ p := purse_ne B (PurseAt.same B (fun _ _ h => h) hp) hL'
    have ndp : D ≠ p := purse_ne B (PurseAt.same B SH1 hp) hD
    have hL0n : H L = none := hL'
    have hD0n : H D = none := none_back SH1 hD
    refine ⟨MixR H p L0 L D cap ts, ⟨_, ts, [], rfl, same_but (SH1.trans SH2), by rw [List.length_nil, Nat.mul_zero, Nat.add_zero]; exact hp2, SH2 _ _ oL, oD, .refl _, rfl⟩, ?_⟩
    rintro m σ H3 ⟨ls, us, rfl, B3, hp3, hL3, hD3, pm, rfl⟩
    have lt16 : us.length + ls.length ≤ 16 := by
      have := pm.length_eq
      rw [List.length_append] at this
      omega
    try walk_at "go"
    intro E hE
    generalize eH4 : upd _ E _ = H4
    have SH4 := newS eH4 hE
    have oE := newO eH4
    have hp4 := PurseAt.same B SH4 hp3
    have hL4 := SH4 _ _ hL3
    have hD4 := SH4 _ _ hD3
    try walk_at "go"
    cases ls with
    | nil =>
      try walk_at "go"
      rw [List.append_nil] at pm
      obtain ⟨a, c, tn, h1, h2, h3⟩ := hp4
      exact q D us _ (B3.trans (same_but SH4)) ⟨a, c, tn, h1, h2, by omega⟩ hD4 pm (none_back SH1 hD)
    | cons l0 ls =>
      refine ⟨fun σ' H' => Kept (∃ m', m' < (l0 :: ls).length ∧ MixR H p L0 L D cap ts m' σ' H'), fun _ _ h => h.ex, ?_⟩
      have ll : ((l0 :: ls).map V.ref).length ≤ 16 := by rw [List.length_map]; omega
      try walk_at "go"
      intro d H5 d0 d1 b5 p5
      obtain ⟨e, rfl⟩ : ∃ e : Nat, d = (e : Int) := ⟨d.toNat, by omega⟩
      have he : e < (l0 :: ls).length := by rw [List.length_map] at d1; omega
      have hL5 := b5 _ _ nLp hL4
      have hD5 := b5 _ _ ndp hD4
      have hsx : seqIndex? (e : Int) ((l0 :: ls).map V.ref).length = some e := (ixN_seq (ixn (by omega))).1
      have hxe : ((l0 :: ls).map V.ref)[e]? = some (.ref (l0 :: ls)[e]) := by rw [List.getElem?_map, List.getElem?_eq_getElem he] <;> rfl
      have he0 : (l0 :: ls)[e]? = some (l0 :: ls)[e] := List.getElem?_eq_getElem he
      have ul : (us.map V.ref).length ≤ 16 := by rw [List.length_map]; omega
      have hD6 : upd H5 L (.lst (((l0 :: ls).map V.ref).eraseIdx e)) D = some (.lst (us.map V.ref)) := by rw [upd_ne (Ne.symm nL)]; exact hD5
      try walk_at "go"
      have nDL : D ≠ L := Ne.symm nL
      refine ⟨⟨((l0 :: ls).eraseIdx e).length, by rw [List.length_eraseIdx_of_lt he]; omega, (l0 :: ls).eraseIdx e, us ++ [(l0 :: ls)[e]], rfl, ?_, ?_, ?_, ?_, ?_, rfl⟩⟩
      · exact fun x u n h => by
          have h5 := b5 _ _ n (SH4 _ _ (B3 _ _ n h))
          have n1 : x ≠ L := ne_of_none h hL0n
          have n2 : x ≠ D := ne_of_none h hD0n
          rw [upd_ne n2, upd_ne n1]
          exact h5
      · obtain ⟨a, c, tn, h1, h2, h3⟩ := p5
        refine ⟨a, c, tn, by rw [upd_ne (Ne.symm ndp), upd_ne (Ne.symm nLp)]; exact h1, h2, ?_⟩
        rw [List.length_append]
        show tn ≤ cap + 64 * (us.length + 1)
        omega
      · rw [upd_ne nL, upd_same, erase_map]
      · rw [upd_same, List.map_append] <;> rfl
      · refine List.Perm.trans ?_ pm
        rw [List.append_assoc]
        exact List.Perm.append_left us (erase_perm he0)
def spBoxes (K : PySem.W.Frag) : Sp := fun vs H Q _ => ∃ (p : Addr) (k cap : Nat), vs = [.ref p, .int k] ∧ k ≤ 4 ∧ PurseAt H p cap ∧ cap ≤ 4000 ∧ ∀ L (bx : List Nat) H', But p H H' → PurseAt H' p (cap + 64 * 110) → H' L = some (.lst (nV bx)) → bx.length = 2 ^ k → (∀ x ∈ bx, x < 16) → H L = none → Q (.ref L) H'
theorem k__law_boxes (D : Df K mg "_law_boxes" s__law_boxes ["_law_purse_here", "_law_k"]) (D__law_take : Dn P w K mg base 2 "_law_take" ["_law_purse_here", "_law_many"] (spTakeP K)) (D__law_sides : Dn P w K mg base 8 "_law_sides" ["_law_purse_here", "_law_k"] (spSidesP K)) : Dn P w K mg base 9 "_law_boxes" ["_law_purse_here", "_law_k"] (spBoxes K) := by
  refine D.ok fun f fd F => okG0 F sc__law_boxes (fun vs H Q E h => ?_) (fun cdv A outer s H vs Q E hr h => ⟨_, (pss_cons (ps_if (pt_cmpR op_eq (pe_cD D__law_take (hr.less (by decide)) rfl (pa_cons (pv 0) (pa_cons pe_int pa_nil))) pe_int (nomark _))
      (pss_one (ps_ret (pe_op op_rep (pe_lst (pa_cons (pe_cD D__law_take (hr.less (by decide)) rfl (pa_cons (pv 0) (pa_cons pe_int pa_nil))) pa_nil)) (pe_op op_shlW pe_int (pv 1)))))
      pss_nil)
    (pss_one (ps_ret (pe_lc (own := [("_law_goal", 2)]) (g := gName 2) (tt := tYes) rfl sc__law_boxes.nd (kk (K := K) (F := fun K => iList K _) (P := PI _ _ _) (pi_list (pe_cD D__law_sides (hr.less (by decide)) rfl (pa_cons (pv 0) (pa_cons (pv 1) pa_nil))))) (blkOk_by (own := [("_law_goal", 2)]) (N := ["_law_purse_here", "_law_k", "_law_goal"]) (sc := defScope s__law_boxes) (by decide +kernel)) (fun _ _ _ _ _ => (pg_name (i := 2) sc__law_boxes.nd rfl (Or.inl rfl))) (fun _ _ _ _ _ => pts_nil) (fun _ _ _ _ _ => (pe_op op_add (pv 2) (pe_op op_shlW (pe_cD D__law_take (hr.less (by decide)) rfl (pa_cons (pv 0) (pa_cons (pe_op op_shr pe_int (pv 1)) pa_nil))) (pv 1)))))))), ?_⟩)
  · obtain ⟨p, k, cap, rfl, _⟩ := h; rfl
  · obtain ⟨p, k, cap, rfl, hk, hp, hc, q⟩ := h
    have hsh : CShl 1 (k : Int) := shl_ok (by omega)
    have eL : (1 : Int) * 2 ^ ((k : Nat) : Int).toNat = ((2 ^ k : Nat) : Int) := by rw [Int.one_mul, Int.toNat_natCast]; push_cast; rfl
    have e16 : 2 ^ k ≤ 16 := (Nat.pow_le_pow_right (by decide) hk : 2 ^ k ≤ 2 ^ 4)
    try walk_at "go"
    intro d H1 d0 d1 b1 p1
    try walk_at "go"
    refine ite2 (fun c => ?_) (fun c => ?_)
    · try walk_at "go"
      intro b H2 b0 b16 b2 p2
      obtain ⟨b, rfl⟩ : ∃ x : Nat, b = (x : Int) := ⟨b.toNat, by omega⟩
      try walk_at "go"
      intro D hD
      have npD := purse_ne B p2 hD
      generalize eH3 : upd _ D (HO.lst [.int (b : Nat)]) = H3
      have SH3 := newS eH3 hD
      have oD := newO eH3
      have ez : [V.int (b : Nat)].length * ((1 : Int) * 2 ^ ((k : Nat) : Int).toNat).toNat ≤ sizeLine := by
        rw [eL, Int.toNat_natCast]
        exact Nat.le_trans (show 1 * 2 ^ k ≤ 16 by omega) (by decide +kernel)
      have lo : -(2 ^ 63) ≤ (1 : Int) * 2 ^ ((k : Nat) : Int).toNat := by rw [eL]; exact Int.le_trans (by decide) (Int.natCast_nonneg _)
      have hi : (1 : Int) * 2 ^ ((k : Nat) : Int).toNat < 2 ^ 63 := by rw [eL]; omega
      try walk_at "go"
      intro L hL
      rw [eL, Int.toNat_natCast]
      have er : (List.replicate (2 ^ k) [V.int (b : Nat)]).flatten = nV (List.replicate (2 ^ k) b) := by
        unfold nV
        rw [List.flatten_replicate_singleton, List.map_replicate]
      rw [er]
      generalize eH4 : upd _ L (HO.lst (nV (List.replicate (2 ^ k) b))) = H4
      have SH4 := newS eH4 hL
      have oL := newO eH4
      have S4 := SH3.trans SH4
      obtain ⟨a, c, tn, h1, h2, h3⟩ := PurseAt.same B S4 p2
      exact q L _ H4 (b1.trans (b2.trans (same_but S4))) ⟨a, c, tn, h1, h2, by omega⟩ oL List.length_replicate (fun x hx => by rw [(List.mem_replicate.mp hx).2]; omega) (But.free (b1.trans b2) (purse_ne B p2 (none_back SH3 hL)) (none_back SH3 hL))
    try walk_at "go"
    intro L g H2 b2 p2 oL hg nL
    have npL : L ≠ p := purse_ne B p1 nL
    try walk_at "go"
    intro E hE
    have npE := purse_ne B p2 hE
    have sl : (sdl k g).length = 2 ^ k := by unfold sdl; rw [List.length_map, List.length_range]
    refine lc_list (K := K) (a := L) (xs := nV (sdl k g)) (fun j H' => Kept (∃ bx : List Nat, But p H2 H' ∧ PurseAt H' p (cap + 64 + 64 * 90 + 64 * j) ∧ H' E = some (.lst (nV bx)) ∧ bx.length = j ∧ ∀ x ∈ bx, x < 16)) ⟨[], same_but (same_new hE _), PurseAt.same B (same_new hE _) p2, upd_same, rfl, fun x hx => absurd hx List.not_mem_nil⟩ (fun i H' _ h => by obtain ⟨_, b, _⟩ := h.ex; exact SqL.of (b _ _ npL oL)) ?_ ?_
    · rintro j v H3 hv ⟨bx, b3, p3, hE3, bl3, bb3⟩
      have hj : j < 2 ^ k := by
        have := (List.getElem?_eq_some_iff.mp hv).1
        unfold nV at this
        rw [List.length_map, sl] at this
        exact this
      obtain rfl : v = .int (g j : Nat) := by
        unfold nV sdl at hv
        rw [List.getElem?_map, List.getElem?_map, List.getElem?_range hj] at hv
        exact (Option.some.inj hv).symm
      have gj := hg j hj
      have eR : (16 : Int) / 2 ^ ((k : Nat) : Int).toNat = ((16 / 2 ^ k : Nat) : Int) := by rw [Int.toNat_natCast]; push_cast; rfl
      have r1 : 1 ≤ (16 : Int) / 2 ^ ((k : Nat) : Int).toNat := by
        rw [eR]
        have : 1 ≤ 16 / 2 ^ k := (Nat.le_div_iff_mul_le (Nat.two_pow_pos k)).mpr (by omega)
        omega
      have r2 : (16 : Int) / 2 ^ ((k : Nat) : Int).toNat < 2 ^ 200 := by
        rw [eR]
        have : 16 / 2 ^ k ≤ 16 := Nat.div_le_self _ _
        omega
      try walk_at "go"
      intro d2 H4 e0 e1 b4 p4
      rw [eR] at e1
      obtain ⟨d2, rfl⟩ : ∃ x : Nat, d2 = (x : Int) := ⟨d2.toNat, by omega⟩
      have hE4 := b4 _ _ npE hE3
      have d16 : d2 < 16 / 2 ^ k := by omega
      have bd : g j + d2 * 2 ^ k < 16 := by
        have m1 : (d2 + 1) * 2 ^ k ≤ 16 := Nat.le_trans (Nat.mul_le_mul_right _ d16) (Nat.div_mul_le_self _ _)
        rw [Nat.succ_mul] at m1
        omega
      have sh2 : CShl (d2 : Int) (k : Int) := shl_small (by rw [Int.natAbs_natCast]; have := Nat.div_le_self 16 (2 ^ k); omega) (by omega) (by omega)
      have ul : (nV bx).length ≤ 100 := by unfold nV; rw [List.length_map]; omega
      try walk_at "go"
      refine ⟨⟨bx ++ [g j + d2 * 2 ^ k], ?_, ?_, ?_, by rw [List.length_append, bl3] <;> rfl, fun x hx => ?_⟩⟩
      · exact (b3.trans b4).fr hE
      · obtain ⟨a, c, tn, h1, h2, h3⟩ := p4
        exact ⟨a, c, tn, by rw [upd_ne (Ne.symm npE)]; exact h1, h2, by omega⟩
      · rw [upd_same, ← nV_snoc]
        have : (g j : Int) + (d2 : Int) * 2 ^ ((k : Nat) : Int).toNat = ((g j + d2 * 2 ^ k : Nat) : Int) := by rw [Int.toNat_natCast]; push_cast; rfl
        exact congrArg (fun z => some (HO.lst (nV bx ++ [V.int z]))) this
      · rcases List.mem_append.mp hx with z | z
        · exact bb3 x z
        · rw [List.mem_singleton.mp z]; exact bd
    rintro H3 ⟨bx, b3, p3, hE3, bl3, bb3⟩
    try walk_at "go"
    have ln : (nV (sdl k g)).length = 2 ^ k := by unfold nV; rw [List.length_map, sl]
    rw [ln] at p3 bl3
    obtain ⟨a, c, tn, h1, h2, h3⟩ := p3
    exact q E bx H3 (b1.trans (b2.trans b3)) ⟨a, c, tn, h1, h2, by omega⟩ hE3 bl3 bb3 (But.free (b1.trans b2) npE hE)
def spDeedS (K : PySem.W.Frag) : Sp := fun vs H Q _ => ∃ (p : Addr) (cap : Nat), vs = [.ref p] ∧ PurseAt H p cap ∧ cap ≤ 80000 ∧ ∀ da d H', But p H H' → PurseAt H' p (cap + 128) → Da H' da d → H da = none → Q (.ref da) H'
theorem k__law_deed (D : Df K mg "_law_deed" s__law_deed ["_law_purse_here"]) (D__law_take : Dn P w K mg base 2 "_law_take" ["_law_purse_here", "_law_many"] (spTakeP K)) : Dn P w K mg base 3 "_law_deed" ["_law_purse_here"] (spDeedS K) := by
  refine D.ok fun f fd F => okG0 F sc__law_deed (fun vs H Q E h => ?_) (fun cdv A outer s H vs Q E hr h => ⟨_, (pss_cons (ps_set (i := 1) sc__law_deed.nd rfl (Or.inl rfl) (pe_op op_sub (pe_cD D__law_take (hr.less (by decide)) rfl (pa_cons (pv 0) (pa_cons pe_int pa_nil))) pe_int))
    (pss_one (ps_ret (pe_ix (kk (K := K) (F := rIxL) (P := IxR _) ix_list) (pe_lst (pa_cons (pe_tup (pa_cons (pv 1) (pa_cons pe_non (pa_cons pe_non pa_nil)))) (pa_cons (pe_tup (pa_cons pe_int (pa_cons (pv 1) (pa_cons (pv 1) pa_nil)))) (pa_cons (pe_tup (pa_cons pe_int (pa_cons (pv 1) (pa_cons pe_non pa_nil)))) (pa_cons (pe_tup (pa_cons pe_int (pa_cons pe_non (pa_cons pe_non pa_nil)))) pa_nil))))) (pe_cD D__law_take (hr.less (by decide)) rfl (pa_cons (pv 0) (pa_cons pe_int pa_nil))) (fun _ _ => rfl))))), ?_⟩)
  · obtain ⟨p, cap, rfl, _⟩ := h; rfl
  · obtain ⟨p, cap, rfl, hp, hc, q⟩ := h
    try walk_at "go"
    intro d H1 d0 d1 b1 p1
    try walk_at "go"
    generalize ea : (fun i j : Int => V.int (i - j)) d 9 = v1
    obtain ⟨n, rfl, n1, n2⟩ : ∃ n : Int, v1 = .int n ∧ -9 ≤ n ∧ n ≤ 9 := ⟨d - 9, ea.symm, by omega, by omega⟩
    try walk_at "go"
    intro T1 hT1
    generalize eH2 : upd _ T1 _ = H2
    have SH2 := newS eH2 hT1
    have oT1 := newO eH2
    try walk_at "go"
    intro T2 hT2
    generalize eH3 : upd _ T2 _ = H3
    have SH3 := newS eH3 hT2
    have oT2 := newO eH3
    try walk_at "go"
    intro T3 hT3
    generalize eH4 : upd _ T3 _ = H4
    have SH4 := newS eH4 hT3
    have oT3 := newO eH4
    try walk_at "go"
    intro T4 hT4
    generalize eH5 : upd _ T4 _ = H5
    have SH5 := newS eH5 hT4
    have oT4 := newO eH5
    try walk_at "go"
    intro D hD
    generalize eH6 : upd _ D _ = H6
    have SH6 := newS eH6 hD
    have oD := newO eH6
    have S6 := SH2.trans (SH3.trans (SH4.trans (SH5.trans SH6)))
    have p6 := PurseAt.same B S6 p1
    try walk_at "go"
    intro c H7 c0 c4 b7 p7
    have p5 := PurseAt.same B (SH2.trans (SH3.trans (SH4.trans SH5))) p1
    have oD7 := b7 _ _ (purse_ne B p5 hD) oD
    have fr : ∀ T H', Same H1 H' → H' T = none → H T = none := fun T H' S z => by
      have z1 := none_back S z
      exact But.free b1 (purse_ne B p1 z1) z1
    have k1 := but_keep b7 p6
    have o1 := k1 _ _ ((SH3.trans (SH4.trans (SH5.trans SH6))) _ _ oT1)
    have o2 := k1 _ _ ((SH4.trans (SH5.trans SH6)) _ _ oT2)
    have o3 := k1 _ _ ((SH5.trans SH6) _ _ oT3)
    have o4 := k1 _ _ (SH6 _ _ oT4)
    have bb := b1.trans ((same_but S6).trans b7)
    have pp : PurseAt H7 p (cap + 128) := by
      obtain ⟨a, c, tn, h1, h2, h3⟩ := p7
      exact ⟨a, c, tn, h1, h2, by omega⟩
    rcases (show c = 0 ∨ c = 1 ∨ c = 2 ∨ c = 3 by omega) with rfl | rfl | rfl | rfl
    · exact ⟨D, _, _, .ref T1, rfl, rfl, SqL.of oD7, rfl, q T1 ⟨n, none, none⟩ H7 bb pp ⟨o1, in_mk (by omega) (by omega) in_none in_none, fun _ _ h => nomatch h⟩ (fr T1 H1 (Same.refl _) hT1)⟩
    · exact ⟨D, _, _, .ref T2, rfl, rfl, SqL.of oD7, rfl, q T2 ⟨0, some n, some n⟩ H7 bb pp ⟨o2, in_mk (by decide) (by decide) (in_some (by omega) (by omega)) (in_some (by omega) (by omega)), fun l h e1 e2 => by cases e1; cases e2; exact .inr ⟨rfl, rfl⟩⟩ (fr T2 H2 SH2 hT2)⟩
    · exact ⟨D, _, _, .ref T3, rfl, rfl, SqL.of oD7, rfl, q T3 ⟨0, some n, none⟩ H7 bb pp ⟨o3, in_mk (by decide) (by decide) (in_some (by omega) (by omega)) in_none, fun _ _ _ h => nomatch h⟩ (fr T3 H3 (SH2.trans SH3) hT3)⟩
    · exact ⟨D, _, _, .ref T4, rfl, rfl, SqL.of oD7, rfl, q T4 ⟨0, none, none⟩ H7 bb pp ⟨o4, in_mk (by decide) (by decide) in_none in_none, fun _ _ h => nomatch h⟩ (fr T4 H4 (SH2.trans (SH3.trans SH4)) hT4)⟩
/-! SPLIT -/
/-- lists of a list, each once -/
structure GvAt (H : Hp) (D : Addr) (rs : List Addr) (n : Nat) (f : Nat → List V) : Prop where
  at_ : H D = some (.lst (rs.map V.ref))
  len : rs.length = n
  nd : rs.Nodup
  ne : D ∉ rs
  row : ∀ (lv : Nat) (a : Addr), rs[lv]? = some a → H a = some (.lst (f lv))
omit B in
theorem GvAt.same {H H' : Hp} {D : Addr} {rs : List Addr} {n : Nat} {f : Nat → List V} (g : GvAt H D rs n f) (e : Same H H') : GvAt H' D rs n f := ⟨e _ _ g.at_, g.len, g.nd, g.ne, fun lv a h => e _ _ (g.row lv a h)⟩
omit B in
theorem nd_ix {rs : List Addr} (nd : rs.Nodup) {i j : Nat} {a : Addr} (h1 : rs[i]? = some a) (h2 : rs[j]? = some a) : i = j := by
  obtain ⟨l1, e1⟩ := List.getElem?_eq_some_iff.mp h1
  obtain ⟨l2, e2⟩ := List.getElem?_eq_some_iff.mp h2
  rcases Nat.lt_trichotomy i j with c | c | c
  · exact absurd (e1.trans e2.symm) (List.pairwise_iff_getElem.mp nd i j l1 l2 c)
  · exact c
  · exact absurd (e2.trans e1.symm) (List.pairwise_iff_getElem.mp nd j i l2 l1 c)
omit B in
theorem GvAt.upd {H H' : Hp} {D r : Addr} {rs : List Addr} {n j : Nat} {f g : Nat → List V} {ys : List V} (G : GvAt H D rs n f) (er : rs[j]? = some r) (b : But r H H') (o : H' r = some (.lst ys)) (h : ∀ lv, lv < n → g lv = if lv = j then ys else f lv) : GvAt H' D rs n g := by
  refine ⟨b _ _ (fun z => G.ne (by rw [z]; exact List.mem_of_getElem? er)) G.at_, G.len, G.nd, G.ne, fun lv a e => ?_⟩
  have hl : lv < n := by rw [← G.len]; exact (List.getElem?_eq_some_iff.mp e).1
  rw [h lv hl]
  by_cases c : lv = j
  · subst c
    rw [if_pos rfl]
    cases (Option.some.inj (er.symm.trans e))
    exact o
  · rw [if_neg c]
    exact b _ _ (fun z => c (nd_ix G.nd e (by rw [z]; exact er))) (G.row lv a e)
omit B in
theorem GvAt.snoc {H H' : Hp} {D r : Addr} {rs : List Addr} {n : Nat} {f : Nat → List V} (G : GvAt H D rs n f) (b : But D H H') (hr : H' r = some (.lst (f n))) (nr : r ∉ rs) (nD : r ≠ D) (o : H' D = some (.lst (rs.map V.ref ++ [.ref r]))) : GvAt H' D (rs ++ [r]) (n + 1) f := by
  refine ⟨by rw [o, List.map_append] <;> rfl, by rw [List.length_append, G.len] <;> rfl, ?_, ?_, fun lv a e => ?_⟩
  · rw [List.nodup_append]
    exact ⟨G.nd, by simp, fun a ha b hb z => nr (by rw [← List.mem_singleton.mp hb, ← z]; exact ha)⟩
  · intro z
    rcases List.mem_append.mp z with w | w
    · exact G.ne w
    · exact nD (List.mem_singleton.mp w).symm
  · by_cases c : lv < rs.length
    · rw [List.getElem?_append_left c] at e
      exact b _ _ (fun z => G.ne (by rw [← z]; exact List.mem_of_getElem? e)) (G.row lv a e)
    · rw [List.getElem?_append_right (by omega)] at e
      have h1 := (List.getElem?_eq_some_iff.mp e).1
      have h2 : [r].length = 1 := rfl
      obtain rfl : lv = n := by have := G.len; omega
      rw [G.len, Nat.sub_self] at e
      cases (Option.some.inj e)
      exact hr
omit B in
theorem GvAt.get {H : Hp} {D : Addr} {rs : List Addr} {n lv : Nat} {f : Nat → List V} (G : GvAt H D rs n f) (h : lv < n) : ∃ a, rs[lv]? = some a ∧ atI (rs.map V.ref) (lv : Int) = some (.ref a) ∧ H a = some (.lst (f lv)) := by
  have hl : lv < rs.length := by rw [G.len]; exact h
  have e := List.getElem?_eq_getElem hl
  exact ⟨_, e, atI_nat (by rw [List.getElem?_map, e] <;> rfl), G.row _ _ e⟩
omit B in
theorem plL_snoc {k i lv : Nat} {as : List Ak} {x : Ak} (h : as[i]? = some x) : plL k (as.take (i + 1)) lv = plL k (as.take i) lv ++ [low k x.hand.toNat (x.box % 2 ^ k) lv] := by
  unfold plL
  rw [take_snoc h, List.map_append] <;> rfl
def dueF (k : Nat) (as : List Ak) (i j lv : Nat) : List V := (cnts (2 ^ k) (plL k (as.take (if lv < j then i + 1 else i)) lv)).map V.int
def spDue99 (K : PySem.W.Frag) : Sp := fun vs H Q _ => ∃ (k nb : Nat) (A : Addr) (as : List Ak), vs = [.int k, .ref A] ∧ k ≤ 4 ∧ AsksAt H A as nb ∧ as.length ≤ 16 ∧ (∀ x ∈ as, x.hand.toNat < 2 ^ k) ∧
  ∀ D rs H', Same H H' → GvAt H' D rs (k + 1) (fun lv => (cnts (2 ^ k) (plL k as lv)).map V.int) → Q (.ref D) H'
theorem k__law_due (D : Df K mg "_law_due" s__law_due ["_law_k", "_law_asks"]) (D_way : Dn P w K mg base 4 "way" ["k", "hand", "side"] spWay) : Dn P w K mg base 5 "_law_due" ["_law_k", "_law_asks"] (spDue99 K) := by
  refine D.ok fun f fd F => okG0 F sc__law_due (fun vs H Q E h => ?_) (fun cdv A outer s H vs Q E hr h => ⟨_, (pss_cons (ps_setLc (i := 3) (own := [("_law_level", 2)]) (g := gName 2) (tt := tYes) rfl sc__law_due.nd rfl rfl (sw_true rfl rfl rfl (by decide +kernel)) (pi_range1 (by rfl) B.range_ (pa_cons (pe_op op_add (pv 0) pe_int) pa_nil)) (blkOk_by (own := [("_law_level", 2)]) (N := ["_law_k", "_law_asks", "_law_level", "_law_found", "_law_hand", "_law_box", "_law_deed_here", "_law_line"]) (sc := defScope s__law_due) (by decide +kernel)) (fun _ _ _ _ _ => (pg_name (i := 2) sc__law_due.nd rfl (Or.inl rfl))) (fun _ _ _ _ _ => pts_nil) (fun _ _ _ _ _ => (pe_op op_rep (pe_lst (pa_cons pe_int pa_nil)) (pe_op op_shlW pe_int (pv 0)))))
    (pss_cons (ps_for PassesOwn.never rfl (kk (K := K) (F := fun K => iTup K _) (P := PI _ _ _) (pi_tup (pv 1))) (kk (K := K) (F := fun K => gTup K 3 _) (P := PG _ _) (pg_tup rfl (pgs_cons (pg_name (i := 4) sc__law_due.nd rfl (Or.inl rfl)) (pgs_cons (pg_name (i := 5) sc__law_due.nd rfl (Or.inl rfl)) (pgs_cons (pg_name (i := 6) sc__law_due.nd rfl (Or.inl rfl)) pgs_nil)))))
      (pss_one (ps_for PassesOwn.never rfl (kk (K := K) (F := fun K => iEnumT K _) (P := PI _ _ _) (pi_enumT (by rfl) B.enumerate_ (pa_cons (pe_cD D_way (hr.less (by decide)) rfl (pa_cons (pv 0) (pa_cons (pv 4) (pa_cons (pe_op op_mod (pv 5) (pe_op op_shlW pe_int (pv 0))) pa_nil)))) pa_nil))) (kk (K := K) (F := fun K => gTup K 2 _) (P := PG _ _) (pg_tup rfl (pgs_cons (pg_name (i := 2) sc__law_due.nd rfl (Or.inl rfl)) (pgs_cons (pg_name (i := 7) sc__law_due.nd rfl (Or.inl rfl)) pgs_nil))))
       (pss_one (ps_asg (pe_op op_add (pe_ix (kk (K := K) (F := rIxL) (P := IxR _) ix_list) (pe_ix (kk (K := K) (F := rIxL) (P := IxR _) ix_list) (pv 3) (pv 2) (fun _ _ => rfl)) (pv 7) (fun _ _ => rfl)) pe_int) (pg_sub (pe_ix (kk (K := K) (F := rIxL) (P := IxR _) ix_list) (pv 3) (pv 2) (fun _ _ => rfl)) (pv 7) set_list))))))
    (pss_one (ps_ret (pv 3))))), ?_⟩)
  · obtain ⟨k, nb, A, as, rfl, _⟩ := h; rfl
  · obtain ⟨k, nb, A, as, rfl, hk, hA, h16, hh, q⟩ := h
    have sh : CShl 1 (k : Int) := shl_ok (by omega)
    have l16 := two_k16 hk
    have eL : (1 : Int) * 2 ^ ((k : Nat) : Int).toNat = ((2 ^ k : Nat) : Int) := shl_2k
    have ez : [V.int 0].length * ((1 : Int) * 2 ^ ((k : Nat) : Int).toNat).toNat ≤ sizeLine := by
      rw [eL, Int.toNat_natCast]
      exact Nat.le_trans (show 1 * 2 ^ k ≤ 16 by omega) (by decide +kernel)
    have lo : -(2 ^ 63) ≤ (1 : Int) * 2 ^ ((k : Nat) : Int).toNat := by rw [eL]; exact Int.le_trans (by decide) (Int.natCast_nonneg _)
    have hi : (1 : Int) * 2 ^ ((k : Nat) : Int).toNat < 2 ^ 63 := by rw [eL]; omega
    have ps : (0 : Int) < (1 : Int) * 2 ^ ((k : Nat) : Int).toNat := by rw [eL]; have := Nat.two_pow_pos k; omega
    try walk_at "go"
    intro D hD
    have e5 : (((k : Nat) : Int) + 1).toNat = k + 1 := by omega
    rw [e5]
    refine lc_range (lo := 0) (n := k + 1) (fun i H' => Kept (∃ rs : List Addr, Same H H' ∧ GvAt H' D rs i (dueF k as 0 0) ∧ ∀ a ∈ rs, H a = none)) ⟨[], same_new hD _, ⟨upd_same, rfl, List.nodup_nil, by simp, fun lv a h => by simp at h⟩, fun a h => absurd h List.not_mem_nil⟩ ?_ ?_
    · rintro i H1 hi2 ⟨rs, S1, G1, r1⟩
      have at1 := G1.at_
      have ul : (rs.map V.ref).length ≤ 100 := by rw [List.length_map, G1.len]; omega
      try walk_at "go"
      intro E hE
      generalize eH2 : upd _ E (HO.lst [.int 0]) = H2
      have SH2 := newS eH2 hE
      have oE := newO eH2
      try walk_at "go"
      intro R hR
      rw [eL, Int.toNat_natCast]
      rw [cnts_nil]
      generalize eH3 : upd _ R (HO.lst ((cnts (2 ^ k) []).map V.int)) = H3
      have SH3 := newS eH3 hR
      have oR := newO eH3
      have S3 := SH2.trans SH3
      have G3 := G1.same S3
      have at3 := G3.at_
      have nRD : R ≠ D := fun z => by rw [← z, none_back SH2 hR] at at1; cases at1
      have nRr : R ∉ rs := fun z => by
        obtain ⟨lv, hl, e⟩ := List.getElem_of_mem z
        have := G1.row lv R (by rw [List.getElem?_eq_getElem hl, e])
        rw [none_back SH2 hR] at this
        cases this
      try walk_at "go"
      refine ⟨⟨rs ++ [R], but_same hD (S1.trans S3) But.upd, G3.snoc But.upd ?_ nRr nRD upd_same, fun a ha => ?_⟩⟩
      · rw [upd_ne nRD]
        exact oR
      · rcases List.mem_append.mp ha with z | z
        · exact r1 a z
        · cases List.mem_singleton.mp z
          exact none_back (S1.trans SH2) hR
    rintro H1 ⟨rs, S1, G1, r1⟩
    have at1 := S1 _ _ hA.1
    try walk_at "go"
    refine for_tup (K := K) (a := A) (xs := as.map fun x => V.ref x.a) (fun i σ H' => Kept (∃ w2 w4 w5 w6 w7 : Option V, σ = [some (.int (k : Nat)), some (.ref A), w2, some (.ref D), w4, w5, w6, w7] ∧ Same H H' ∧ GvAt H' D rs (k + 1) (dueF k as i 0))) ⟨_, _, _, _, _, rfl, S1, G1⟩ (fun i σ H' _ h => by obtain ⟨_, _, _, _, _, _, S, _⟩ := h.ex; exact SqT.of (S _ _ hA.1)) ?_ ?_
    · rintro i v σ H4 hv ⟨w2, w4, w5, w6, w7, rfl, S4, G4⟩
      rw [List.getElem?_map] at hv
      obtain ⟨x, hx, rfl⟩ := Option.map_eq_some_iff.mp hv
      have hi2 : i < as.length := (List.getElem?_eq_some_iff.mp hx).1
      obtain ⟨xa, xd, x0, x16, xb⟩ := (hA.2.2 x (List.mem_of_getElem? hx)).same S4
      have hx2 := hh x (List.mem_of_getElem? hx)
      have eh : x.hand = ((x.hand.toNat : Nat) : Int) := (Int.toNat_of_nonneg x0).symm
      have xa : H4 x.a = some (.tup [.int ((x.hand.toNat : Nat) : Int), .int (x.box : Nat), .ref x.da]) := by rw [← eh]; exact xa
      have gl : x.box % 2 ^ k < 2 ^ k := Nat.mod_lt _ (Nat.two_pow_pos k)
      have en : x.box % ((1 : Int) * 2 ^ ((k : Nat) : Int).toNat).natAbs = x.box % 2 ^ k := by rw [eL, Int.natAbs_natCast]
      have gl2 : x.box % ((1 : Int) * 2 ^ ((k : Nat) : Int).toNat).natAbs < 2 ^ k := by rw [en]; exact gl
      try walk_at "go"
      intro W H5 S5 oW
      rw [en] at oW
      try walk_at "go"
      have S45 := S4.trans S5
      have G5 := G4.same S5
      refine for_enumT (K := K) (a := W) (xs := ((List.range (k + 1)).map (low k x.hand.toNat (x.box % 2 ^ k))).map V.int) (fun j σ H' => Kept (∃ w2 w7 : Option V, σ = [some (.int (k : Nat)), some (.ref A), w2, some (.ref D), some (.int (x.hand.toNat : Nat)), some (.int (x.box : Nat)), some (.ref x.da), w7] ∧ Same H H' ∧ H' W = some (.tup (((List.range (k + 1)).map (low k x.hand.toNat (x.box % 2 ^ k))).map V.int)) ∧ GvAt H' D rs (k + 1) (dueF k as i j))) ⟨_, _, rfl, S45, oW, G5⟩ (fun i σ H' _ h => by obtain ⟨_, _, _, _, o, _⟩ := h.ex; exact SqT.of o) ?_ ?_
      · rintro j v P σ H6 hv ⟨w2', w7', rfl, S6, oW6, G6⟩ hP
        rw [List.getElem?_map, List.getElem?_map] at hv
        obtain ⟨y, hy, rfl⟩ := Option.map_eq_some_iff.mp hv
        obtain ⟨j', hj', rfl⟩ := Option.map_eq_some_iff.mp hy
        have hj : j < k + 1 := by have := (List.getElem?_eq_some_iff.mp hj').1; rwa [List.length_range] at this
        obtain rfl : j = j' := by rw [List.getElem?_range hj] at hj'; exact Option.some.inj hj'
        obtain ⟨m, em, hm⟩ : ∃ m : Nat, low k x.hand.toNat (x.box % 2 ^ k) j = (m : Int) ∧ m < 2 ^ k := by
          obtain ⟨e1, e2⟩ := low_nat (k := k) (h := x.hand.toNat) (g := x.box % 2 ^ k) (j := j) (by omega) hx2 gl (by omega)
          exact ⟨_, e1, e2⟩
        rw [em]
        generalize eH7 : upd _ P (HO.tup [.int (j : Nat), .int (m : Nat)]) = H7
        have SH7 := newS eH7 hP
        have oP := newO eH7
        have G7 := G6.same SH7
        have at7 := G7.at_
        obtain ⟨r, er, ar, hr⟩ := G7.get hj
        have ef : dueF k as i j j = (cnts (2 ^ k) (plL k (as.take i) j)).map V.int := by unfold dueF; rw [if_neg (Nat.lt_irrefl j)]
        rw [ef] at hr
        have am : atI ((cnts (2 ^ k) (plL k (as.take i) j)).map V.int) (m : Int) = some (.int (((plL k (as.take i) j).count (m : Int) : Nat) : Int)) := atI_nat (by rw [List.getElem?_map, cnts_at hm] <;> rfl)
        have ixm : ixN ((cnts (2 ^ k) (plL k (as.take i) j)).map V.int).length (m : Int) = some m := ixn (by rw [List.length_map, cnts_len]; exact hm)
        try walk_at "go"
        generalize eH8 : upd H7 r (HO.lst (((cnts (2 ^ k) (plL k (as.take i) j)).map V.int).set m (.int ((((plL k (as.take i) j).count (m : Int) : Nat) : Int) + 1)))) = H8
        have BH8 : But r H7 H8 := eH8 ▸ But.upd
        have oH8 : H8 r = some (HO.lst (((cnts (2 ^ k) (plL k (as.take i) j)).map V.int).set m (.int ((((plL k (as.take i) j).count (m : Int) : Nat) : Int) + 1)))) := eH8 ▸ upd_same
        have S8 : Same H H8 := fun b o h => BH8 _ _ (ne_of_none h (r1 r (List.mem_of_getElem? er))) ((S6.trans SH7) _ _ h)
        refine ⟨⟨_, _, rfl, S8, BH8 _ _ (ne_of (SH7 _ _ oW6) hr (by intro w; cases w)) (SH7 _ _ oW6), G7.upd er BH8 oH8 fun lv hl => ?_⟩⟩
        by_cases c : lv = j
        · subst c
          rw [if_pos rfl]
          unfold dueF
          rw [if_pos (Nat.lt_succ_self lv), plL_snoc hx, em, cnts_snoc hm, List.map_set]
        · rw [if_neg c]
          unfold dueF
          by_cases c2 : lv < j
          · rw [if_pos c2, if_pos (by omega)]
          · rw [if_neg c2, if_neg (by omega)]
      rintro σ H6 ⟨w2', w7', rfl, S6, oW6, G6⟩
      refine ⟨⟨_, _, _, _, _, rfl, S6, G6.at_, G6.len, G6.nd, G6.ne, fun lv a e => ?_⟩⟩
      have hl : lv < k + 1 := by rw [← G6.len]; exact (List.getElem?_eq_some_iff.mp e).1
      rw [G6.row lv a e]
      unfold dueF
      rw [List.length_map, List.length_map, List.length_range, if_pos hl, if_neg (Nat.not_lt_zero lv)]
    rintro σ H4 ⟨w2, w4, w5, w6, w7, rfl, S4, G4⟩
    try walk_at "go"
    refine q D rs H4 S4 ⟨G4.at_, G4.len, G4.nd, G4.ne, fun lv a e => ?_⟩
    rw [G4.row lv a e]
    unfold dueF
    rw [if_neg (Nat.not_lt_zero lv), List.length_map, List.take_length]
/-! SPLIT -/
/-- data of lists of lists -/
def llD (f : Nat → List Int) (n : Nat) : PyData := .list ((List.range n).map fun lv => .list ((f lv).map PyData.int))
omit B in
theorem ll_dp {K : PySem.W.Frag} {H : Hp} {D : Addr} {rs : List Addr} {n : Nat} {f : Nat → List Int} (h1 : H D = some (.lst (rs.map V.ref))) (h2 : rs.length = n) (h3 : ∀ (lv : Nat) (a : Addr), rs[lv]? = some a → H a = some (.lst ((f lv).map V.int))) : Dp K H (.ref D) (llD f n) := by
  refine .lst (SqL.of h1) (dpAll_of (by rw [List.length_map, List.length_map, List.length_range, h2]) fun i x d hx hd => ?_)
  rw [List.getElem?_map] at hx hd
  obtain ⟨a, ha, rfl⟩ := Option.map_eq_some_iff.mp hx
  obtain ⟨j, hj, rfl⟩ := Option.map_eq_some_iff.mp hd
  have hi : i < n := by rw [← h2]; exact (List.getElem?_eq_some_iff.mp ha).1
  rw [List.getElem?_range hi] at hj
  cases hj
  exact lst_dp (SqL.of (h3 i a ha))
omit B in
theorem ll_ly {n : Nat} {f : Nat → List Int} : Ly 2 (llD f n) := .lst fun d hd => by
  obtain ⟨lv, _, rfl⟩ := List.mem_map.mp hd
  exact .lstI
omit B in
theorem rep_any (n : Nat) : (List.replicate n false).any id = false := by
  rw [List.any_eq_false]
  intro x hx
  rw [(List.mem_replicate.mp hx).2]
  decide
omit B in
theorem rep_len2 {b : Bool} {n : Nat} : ((List.replicate n b).map V.bl).length = n := by rw [List.length_map, List.length_replicate]
omit B in
theorem rep_snoc2 {b : Bool} {n : Nat} : (List.replicate n b).map V.bl ++ [V.bl b] = (List.replicate (n + 1) b).map V.bl := by rw [List.replicate_succ', List.map_append] <;> rfl
def spRows99 (K : PySem.W.Frag) : Sp := fun vs H Q _ => ∃ (T D : Addr) (rs : List Addr) (f : Nat → List Int) (n : Nat), vs = [.ref T, .ref D] ∧ LdAt H T f n ∧ GvAt H D rs n (fun lv => (f lv).map V.int) ∧ n ≤ 5 ∧ (∀ lv, lv < n → (f lv).length ≤ 16) ∧ ∀ H', Same H H' → Q (.bl true) H'
theorem k__law_are_rows (D : Df K mg "_law_are_rows" s__law_are_rows ["_law_told", "_law_due_here"]) : Dn P w K mg base 1 "_law_are_rows" ["_law_told", "_law_due_here"] (spRows99 K) := by
  refine D.ok fun f fd F => okG0 F sc__law_are_rows (fun vs H Q E h => ?_) (fun cdv A outer s H vs Q E hr h => ⟨_, (pss_cons (ps_if (PW.pt (pw_or (pt_not (pt_val (pe_callB (kk (K := K) (F := rIsi) (P := CallR _ _) call_isi) (by rfl) B.isinstance_ (by decide +kernel) (pa_cons (pv 0) (pa_cons (pe_bltn (v := .ty "tuple") (u := .type "tuple") (by rfl) B.tuple_ (by decide +kernel) rfl) pa_nil))))) (pw_or1 (pt_not (pt_val (pe_callB (kk (K := K) (F := rAll) (P := CallR _ _) (cr_all rfl)) (by rfl) B.all_ (by decide +kernel) (pa_cons (pe_lc (own := [("_law_row", 2)]) (g := gName 2) (tt := tYes) rfl sc__law_are_rows.nd (kk (K := K) (F := fun K => iTup K _) (P := PI _ _ _) (pi_tup (pv 0))) (blkOk_by (own := [("_law_row", 2)]) (N := ["_law_told", "_law_due_here", "_law_row", "_law_one"]) (sc := defScope s__law_are_rows) (by decide +kernel)) (fun _ _ _ _ _ => (pg_name (i := 2) sc__law_are_rows.nd rfl (Or.inl rfl))) (fun _ _ _ _ _ => pts_nil) (fun _ _ _ _ _ => (pe_callB (kk (K := K) (F := rIsi) (P := CallR _ _) call_isi) (by rfl) B.isinstance_ (by decide +kernel) (pa_cons (pv 2) (pa_cons (pe_bltn (v := .ty "tuple") (u := .type "tuple") (by rfl) B.tuple_ (by decide +kernel) rfl) pa_nil))))) pa_nil)))))))
      (pss_one (ps_ret pe_bl))
      pss_nil)
    (pss_cons (ps_if (pt_val (pe_callB (kk (K := K) (F := rAny) (P := CallR _ _) (cr_any rfl)) (by rfl) B.any_ (by decide +kernel) (pa_cons (pe_lc (own := [("_law_row", 2)]) (g := gName 2) (tt := tYes) rfl sc__law_are_rows.nd (kk (K := K) (F := fun K => iTup K _) (P := PI _ _ _) (pi_tup (pv 0))) (blkOk_by (own := [("_law_row", 2)]) (N := ["_law_told", "_law_due_here", "_law_row", "_law_one"]) (sc := defScope s__law_are_rows) (by decide +kernel)) (fun _ _ _ _ _ => (pg_name (i := 2) sc__law_are_rows.nd rfl (Or.inl rfl))) (fun _ _ _ _ _ => pts_nil) (fun _ _ _ _ _ => (pe_callB (kk (K := K) (F := rAny) (P := CallR _ _) (cr_any rfl)) (by rfl) B.any_ (by decide +kernel) (pa_cons (pe_lc (own := [("_law_one", 3)]) (g := gName 3) (tt := tYes) rfl sc__law_are_rows.nd (kk (K := K) (F := fun K => iTup K _) (P := PI _ _ _) (pi_tup (pv 2))) (blkOk_nest (own := [("_law_one", 3)]) (N := ["_law_told", "_law_due_here", "_law_row", "_law_one"]) rfl (by decide +kernel)) (fun _ _ _ _ _ => (pg_name (i := 3) sc__law_are_rows.nd rfl (Or.inl rfl))) (fun _ _ _ _ _ => pts_nil) (fun _ _ _ _ _ => (pe_callB (kk (K := K) (F := rIsi) (P := CallR _ _) call_isi) (by rfl) B.isinstance_ (by decide +kernel) (pa_cons (pv 3) (pa_cons (pe_bltn (v := .ty "bool") (u := .type "bool") (by rfl) B.bool_ (by decide +kernel) rfl) pa_nil))))) pa_nil)))) pa_nil)))
      (pss_one (ps_ret pe_bl))
      pss_nil)
    (pss_one (ps_ret (pe_cmpR (kk (K := K) (F := rEqD) (P := OpR _ _) (op_eqD hr.units)) (pe_lc (own := [("_law_row", 2)]) (g := gName 2) (tt := tYes) rfl sc__law_are_rows.nd (kk (K := K) (F := fun K => iTup K _) (P := PI _ _ _) (pi_tup (pv 0))) (blkOk_by (own := [("_law_row", 2)]) (N := ["_law_told", "_law_due_here", "_law_row", "_law_one"]) (sc := defScope s__law_are_rows) (by decide +kernel)) (fun _ _ _ _ _ => (pg_name (i := 2) sc__law_are_rows.nd rfl (Or.inl rfl))) (fun _ _ _ _ _ => pts_nil) (fun _ _ _ _ _ => (pe_callTy (lstOfK (K := K)) (by rfl) B.list_ (by decide +kernel) (pa_cons (pv 2) pa_nil)))) (pv 1) (nomark _)))))), ?_⟩)
  · obtain ⟨T, D, rs, f, n, rfl, _⟩ := h; rfl
  · obtain ⟨T, D, rs, f, n, rfl, hT, hD, h5, hf, q⟩ := h
    obtain ⟨ls, t1, t2, t3⟩ := hT
    have ll : ls.length = n := by have := congrArg List.length t3; rw [List.length_map, List.length_map, List.length_range] at this; exact this
    have lsf : ∀ (i : Nat) (x : Addr × List Int), ls[i]? = some x → i < n ∧ x.2 = f i := fun i x hx => by
      have hi : i < n := by rw [← ll]; exact (List.getElem?_eq_some_iff.mp hx).1
      have := congrArg (fun z => z[i]?) t3
      simp only [List.getElem?_map, List.getElem?_range hi, hx] at this
      exact ⟨hi, Option.some.inj this⟩
    try walk_at "go"
    intro E hE
    refine lc_tup (K := K) (a := T) (xs := ls.map fun x => V.ref x.1) (fun i H' => Kept (Same H H' ∧ H' E = some (.lst ((List.replicate i true).map V.bl)))) ⟨same_new hE _, upd_same⟩ (fun i H' _ h => SqT.of (h.ex.1 _ _ t1)) ?_ ?_
    · rintro i v H1 hv ⟨S1, hE1⟩
      rw [List.getElem?_map] at hv
      obtain ⟨x, hx, rfl⟩ := Option.map_eq_some_iff.mp hv
      obtain ⟨hi, ex⟩ := lsf i x hx
      have ul : ((List.replicate i true).map V.bl).length ≤ 100 := by rw [rep_len]; omega
      have rw1 := S1 _ _ (t2 x (List.mem_of_getElem? hx))
      try walk_at "go"
      exact ⟨⟨but_same hE S1 But.upd, by rw [upd_same, rep_snoc2]⟩⟩
    rintro H1 ⟨S1, hE1⟩
    try walk_at "go"
    rw [rep_all]
    refine ifF rfl ?_
    try walk_at "go"
    intro E2 hE2
    have t12 := S1 _ _ t1
    refine lc_tup (K := K) (a := T) (xs := ls.map fun x => V.ref x.1) (fun i H' => Kept (Same H1 H' ∧ H' E2 = some (.lst ((List.replicate i false).map V.bl)))) ⟨same_new hE2 _, upd_same⟩ (fun i H' _ h => SqT.of (h.ex.1 _ _ t12)) ?_ ?_
    · rintro i v H2 hv ⟨S2, hE22⟩
      rw [List.getElem?_map] at hv
      obtain ⟨x, hx, rfl⟩ := Option.map_eq_some_iff.mp hv
      obtain ⟨hi, ex⟩ := lsf i x hx
      have ul : ((List.replicate i false).map V.bl).length ≤ 100 := by rw [rep_len2]; omega
      have rw2 := (S1.trans S2) _ _ (t2 x (List.mem_of_getElem? hx))
      have x16 : x.2.length ≤ 16 := by rw [ex]; exact hf i hi
      try walk_at "go"
      intro E3 hE3
      refine lc_tup (K := K) (a := x.1) (xs := x.2.map V.int) (fun i H' => Kept (Same H2 H' ∧ H' E3 = some (.lst ((List.replicate i false).map V.bl)))) ⟨same_new hE3 _, upd_same⟩ (fun i H' _ h => SqT.of (h.ex.1 _ _ rw2)) ?_ ?_
      · rintro j v H3 hv ⟨S3, hE33⟩
        rw [List.getElem?_map] at hv
        obtain ⟨y, hy, rfl⟩ := Option.map_eq_some_iff.mp hv
        have hj : j < x.2.length := (List.getElem?_eq_some_iff.mp hy).1
        have ul : ((List.replicate j false).map V.bl).length ≤ 100 := by rw [rep_len2]; omega
        try walk_at "go"
        refine ⟨⟨but_same hE3 S3 But.upd, ?_⟩⟩
        rw [upd_same, ← rep_snoc2]
        rfl
      rintro H3 ⟨S3, hE33⟩
      have hE23 := S3 _ _ hE22
      try walk_at "go"
      rw [rep_any]
      exact ⟨⟨but_same hE2 (S2.trans S3) But.upd, by rw [upd_same, rep_snoc2]⟩⟩
    rintro H2 ⟨S2, hE22⟩
    try walk_at "go"
    rw [rep_any]
    refine ifF rfl ?_
    try walk_at "go"
    intro E3 hE3
    have S12 := S1.trans S2
    have t13 := S12 _ _ t1
    refine lc_tup (K := K) (a := T) (xs := ls.map fun x => V.ref x.1) (fun i H' => Kept (∃ us : List Addr, Same H2 H' ∧ H' E3 = some (.lst (us.map V.ref)) ∧ us.length = i ∧ ∀ (lv : Nat) (a : Addr), us[lv]? = some a → H' a = some (.lst ((f lv).map V.int)) ∧ a ≠ E3)) ⟨[], same_new hE3 _, upd_same, rfl, fun lv a h => by simp at h⟩ (fun i H' _ h => by obtain ⟨_, S, _⟩ := h.ex; exact SqT.of (S _ _ t13)) ?_ ?_
    · rintro i v H3 hv ⟨us, S3, hE33, lu, ru⟩
      rw [List.getElem?_map] at hv
      obtain ⟨x, hx, rfl⟩ := Option.map_eq_some_iff.mp hv
      obtain ⟨hi, ex⟩ := lsf i x hx
      have ul : (us.map V.ref).length ≤ 100 := by rw [List.length_map]; omega
      have rw3 := (S12.trans S3) _ _ (t2 x (List.mem_of_getElem? hx))
      rw [ex] at rw3
      try walk_at "go"
      intro R hR
      generalize eH4 : upd _ R _ = H4
      have SH4 := newS eH4 hR
      have oR := newO eH4
      have hE34 := SH4 _ _ hE33
      have nR : R ≠ E3 := fun z => by rw [z, hE33] at hR; cases hR
      try walk_at "go"
      refine ⟨⟨us ++ [R], but_same hE3 (S3.trans SH4) But.upd, by rw [upd_same, List.map_append] <;> rfl, by rw [List.length_append, lu] <;> rfl, fun lv a e => ?_⟩⟩
      by_cases c : lv < us.length
      · rw [List.getElem?_append_left c] at e
        obtain ⟨g1, g2⟩ := ru lv a e
        exact ⟨by rw [upd_ne g2]; exact SH4 _ _ g1, g2⟩
      · rw [List.getElem?_append_right (by omega)] at e
        have h1 := (List.getElem?_eq_some_iff.mp e).1
        have h2 : [R].length = 1 := rfl
        obtain rfl : lv = i := by omega
        rw [lu, Nat.sub_self] at e
        cases (Option.some.inj e)
        exact ⟨by rw [upd_ne nR]; exact oR, nR⟩
    rintro H3 ⟨us, S3, hE33, lu, ru⟩
    have S13 := S12.trans S3
    have D3 := hD.same S13
    rw [List.length_map, ll] at lu
    have d1 : Dp K H3 (.ref E3) (llD f n) := ll_dp hE33 lu fun lv a e => (ru lv a e).1
    have d2 : Dp K H3 (.ref D) (llD f n) := ll_dp D3.at_ D3.len D3.row
    have sh : SeqAt.shaped (llD f n) = true := ll_ly.sh
    have q3 := q H3 S13
    rw [← ll_ly.refl (d := llD f n)] at q3
    try walk_at "go"
    exact q3
def spFull99 (K : PySem.W.Frag) : Sp := fun vs H Q _ => ∃ (T : Addr) (g : Nat → List Int) (k : Nat), vs = [.ref T] ∧ k ≤ 4 ∧ LdAt H T (fun lv => cnts (2 ^ k) (g lv)) (k + 1) ∧ (∀ lv, lv ≤ k → (g lv).length ≤ 40 ∧ ∀ x ∈ g lv, 0 ≤ x ∧ x < ((2 ^ k : Nat) : Int)) ∧
  ∀ r v H', Fst g k r → Same H H' → (match r with | none => v = .non | some (lv, x) => ∃ U, v = .ref U ∧ H' U = some (.tup [.int (lv : Nat), .int x])) → Q v H'
theorem k__law_first_full (D : Df K mg "_law_first_full" s__law_first_full ["_law_loads"]) : Dn P w K mg base 1 "_law_first_full" ["_law_loads"] (spFull99 K) := by
  refine D.ok fun f fd F => okG0 F sc__law_first_full (fun vs H Q E h => ?_) (fun cdv A outer s H vs Q E hr h => ⟨_, (pss_cons (ps_for PassesOwn.never rfl (kk (K := K) (F := fun K => iEnumT K _) (P := PI _ _ _) (pi_enumT (by rfl) B.enumerate_ (pa_cons (pv 0) pa_nil))) (kk (K := K) (F := fun K => gTup K 2 _) (P := PG _ _) (pg_tup rfl (pgs_cons (pg_name (i := 1) sc__law_first_full.nd rfl (Or.inl rfl)) (pgs_cons (pg_name (i := 2) sc__law_first_full.nd rfl (Or.inl rfl)) pgs_nil))))
      (pss_one (ps_for PassesOwn.never rfl (kk (K := K) (F := fun K => iEnumT K _) (P := PI _ _ _) (pi_enumT (by rfl) B.enumerate_ (pa_cons (pv 2) pa_nil))) (kk (K := K) (F := fun K => gTup K 2 _) (P := PG _ _) (pg_tup rfl (pgs_cons (pg_name (i := 3) sc__law_first_full.nd rfl (Or.inl rfl)) (pgs_cons (pg_name (i := 4) sc__law_first_full.nd rfl (Or.inl rfl)) pgs_nil))))
       (pss_one (ps_if (pt_cmpR op_gt (pv 4) pe_int (nomark _))
        (pss_one (ps_ret (pe_tup (pa_cons (pv 1) (pa_cons (pv 3) pa_nil)))))
        pss_nil)))))
    (pss_one (ps_ret pe_non))), ?_⟩)
  · obtain ⟨T, g, k, rfl, _⟩ := h; rfl
  · obtain ⟨T, g, k, rfl, hk, hT, hg, q⟩ := h
    obtain ⟨ls, t1, t2, t3⟩ := hT
    have ll : ls.length = k + 1 := by have := congrArg List.length t3; rw [List.length_map, List.length_map, List.length_range] at this; exact this
    have lsf : ∀ (i : Nat) (x : Addr × List Int), ls[i]? = some x → i < k + 1 ∧ x.2 = cnts (2 ^ k) (g i) := fun i x hx => by
      have hi : i < k + 1 := by rw [← ll]; exact (List.getElem?_eq_some_iff.mp hx).1
      have := congrArg (fun z => z[i]?) t3
      simp only [List.getElem?_map, List.getElem?_range hi, hx] at this
      exact ⟨hi, Option.some.inj this⟩
    try walk_at "go"
    refine for_enumT (K := K) (a := T) (xs := ls.map fun x => V.ref x.1) (fun i σ H' => Kept (∃ w1 w2 w3 w4 : Option V, σ = [some (.ref T), w1, w2, w3, w4] ∧ Same H H' ∧ ∀ lv, lv < i → ∀ x, ¬ Rp (g lv) x)) ⟨_, _, _, _, rfl, Same.refl H, fun lv h => absurd h (Nat.not_lt_zero _)⟩ (fun i σ H' _ h => by obtain ⟨_, _, _, _, _, S, _⟩ := h.ex; exact SqT.of (S _ _ t1)) ?_ ?_
    · rintro i v P σ H1 hv ⟨w1, w2, w3, w4, rfl, S1, no1⟩ hP
      rw [List.getElem?_map] at hv
      obtain ⟨x, hx, rfl⟩ := Option.map_eq_some_iff.mp hv
      obtain ⟨hi, ex⟩ := lsf i x hx
      have hik : i ≤ k := by omega
      have rw1 := S1 _ _ (t2 x (List.mem_of_getElem? hx))
      rw [ex] at rw1
      generalize eH2 : upd _ P (HO.tup [.int (i : Nat), .ref x.1]) = H2
      have SH2 := newS eH2 hP
      have oP := newO eH2
      have rw2 := SH2 _ _ rw1
      try walk_at "go"
      refine for_enumT (K := K) (a := x.1) (xs := (cnts (2 ^ k) (g i)).map V.int) (fun j σ H' => Kept (∃ w3 w4 : Option V, σ = [some (.ref T), some (.int (i : Nat)), some (.ref x.1), w3, w4] ∧ Same H2 H' ∧ ∀ l : Nat, l < j → ¬ Rp (g i) (l : Int))) ⟨_, _, rfl, Same.refl H2, fun l h => absurd h (Nat.not_lt_zero _)⟩ (fun i σ H' _ h => by obtain ⟨_, _, _, S, _⟩ := h.ex; exact SqT.of (S _ _ rw2)) ?_ ?_
      · rintro j v P2 σ H3 hv ⟨w3', w4', rfl, S3, no3⟩ hP2
        have hj : j < 2 ^ k := by have := (List.getElem?_eq_some_iff.mp hv).1; rw [List.length_map, cnts_len] at this; exact this
        rw [List.getElem?_map, cnts_at hj] at hv
        obtain rfl : v = .int (((g i).count (j : Int) : Nat) : Int) := (Option.some.inj hv).symm
        generalize eH4 : upd _ P2 (HO.tup [.int (j : Nat), .int (((g i).count (j : Int) : Nat) : Int)]) = H4
        have SH4 := newS eH4 hP2
        have oP2 := newO eH4
        have S4 := S1.trans (SH2.trans (S3.trans SH4))
        have c40 : (g i).count (j : Int) ≤ 40 := Nat.le_trans List.count_le_length (hg i hik).1
        try walk_at "go"
        refine ite2 (fun c => ?_) (fun c => ?_)
        · try walk_at "go"
          intro U hU
          generalize eH5 : upd _ U _ = H5
          have SH5 := newS eH5 hU
          have oU := newO eH5
          refine q (some (i, (j : Int))) _ H5 ⟨hik, ?_, fun y hy => ?_, no1⟩ (S4.trans SH5) ⟨U, rfl, oU⟩
          · unfold Rp
            have := of_decide_eq_true c
            omega
          · have hm : y ∈ g i := List.count_pos_iff.mp (Nat.lt_trans Nat.zero_lt_one hy)
            obtain ⟨y0, _⟩ := (hg i hik).2 y hm
            refine Classical.byContradiction fun z => ?_
            refine no3 y.toNat (by omega) ?_
            rw [Int.toNat_of_nonneg y0]
            exact hy
        · try walk_at "go"
          refine ⟨⟨_, _, rfl, S3.trans SH4, fun l hl => ?_⟩⟩
          by_cases e : l = j
          · subst e
            intro z
            unfold Rp at z
            exact c (decide_eq_true (by omega))
          · exact no3 l (by omega)
      rintro σ H3 ⟨w3', w4', rfl, S3, no3⟩
      rw [List.length_map, cnts_len] at no3
      refine ⟨⟨_, _, _, _, rfl, S1.trans (SH2.trans S3), fun lv hl y hy => ?_⟩⟩
      by_cases e : lv = i
      · subst e
        have hm : y ∈ g lv := List.count_pos_iff.mp (Nat.lt_trans Nat.zero_lt_one hy)
        obtain ⟨y0, y1⟩ := (hg lv hik).2 y hm
        refine no3 y.toNat (by omega) ?_
        rw [Int.toNat_of_nonneg y0]
        exact hy
      · exact no1 lv (by omega) y hy
    rintro σ H1 ⟨w1, w2, w3, w4, rfl, S1, no1⟩
    rw [List.length_map, ll] at no1
    try walk_at "go"
    exact q none _ H1 (fun lv hl x => no1 lv (by omega) x) S1 rfl
/-! SPLIT -/
/-- the boxes of the ways with a line -/
def bxs (k lv : Nat) (as : List Ak) (l : Nat) : List Int := (as.filter fun x => decide (low k x.hand.toNat (x.box % 2 ^ k) lv = (l : Int))).map fun x => ((x.box : Nat) : Int)
/-- how many unlike ones there are -/
def Dst (xs : List Int) (n : Nat) : Prop := ∃ out : List Int, out.Nodup ∧ (∀ y, y ∈ out ↔ y ∈ xs) ∧ out.length = n
/-- what is due of a line -/
def DueN (j : Bool) (k lv : Nat) (as : List Ak) (l n : Nat) : Prop := (j = false → n = (bxs k lv as l).length) ∧ (j = true → Dst (bxs k lv as l) n)
omit B in
theorem bxs_snoc {k lv l m : Nat} {as : List Ak} {x : Ak} (e : low k x.hand.toNat (x.box % 2 ^ k) lv = (m : Int)) : bxs k lv (as ++ [x]) l = if l = m then bxs k lv as l ++ [((x.box : Nat) : Int)] else bxs k lv as l := by
  unfold bxs
  rw [List.filter_append, List.map_append]
  by_cases c : l = m
  · subst c
    rw [if_pos rfl]
    have : [x].filter (fun x => decide (low k x.hand.toNat (x.box % 2 ^ k) lv = (l : Int))) = [x] := by rw [List.filter_cons, decide_eq_true e] <;> rfl
    rw [this] <;> rfl
  · rw [if_neg c]
    have : [x].filter (fun x => decide (low k x.hand.toNat (x.box % 2 ^ k) lv = (l : Int))) = [] := by rw [List.filter_cons, decide_eq_false (by rw [e]; omega)] <;> rfl
    rw [this] <;> simp
omit B in
theorem bxs_len {k lv l : Nat} {as : List Ak} : (bxs k lv as l).length ≤ as.length := by unfold bxs; rw [List.length_map]; exact List.length_filter_le _ _
omit B in
theorem nd_at {rs : List Addr} (nd : rs.Nodup) {i j : Nat} {a : Addr} (h1 : rs[i]? = some a) (h2 : rs[j]? = some a) : i = j := by
  obtain ⟨l1, e1⟩ := List.getElem?_eq_some_iff.mp h1
  obtain ⟨l2, e2⟩ := List.getElem?_eq_some_iff.mp h2
  rcases Nat.lt_trichotomy i j with c | c | c
  · exact absurd (e1.trans e2.symm) (List.pairwise_iff_getElem.mp nd i j l1 l2 c)
  · exact c
  · exact absurd (e2.trans e1.symm) (List.pairwise_iff_getElem.mp nd j i l2 l1 c)
omit B in
theorem nd_len : ∀ {xs ys : List Int}, xs.Nodup → (∀ y ∈ xs, y ∈ ys) → xs.length ≤ ys.length
  | [], _, _, _ => Nat.zero_le _
  | x :: xs, ys, nd, h => by
    rw [List.nodup_cons] at nd
    have hx := h x List.mem_cons_self
    have h2 : ∀ y ∈ xs, y ∈ ys.erase x := fun y hy => (List.mem_erase_of_ne (fun z : y = x => nd.1 (by rw [← z]; exact hy))).mpr (h y (List.mem_cons_of_mem _ hy))
    have h3 := nd_len nd.2 h2
    rw [List.length_erase_of_mem hx] at h3
    have h4 := List.length_pos_of_mem hx
    show xs.length + 1 ≤ ys.length
    omega
/-- lists of lists of a list -/
structure G3 (H : Hp) (D : Addr) (L : List (Addr × List Addr)) (n m : Nat) (X : Nat → Nat → List Int) : Prop where
  at_ : H D = some (.lst (L.map fun x => V.ref x.1))
  len : L.length = n
  row : ∀ (i : Nat) x, L[i]? = some x → H x.1 = some (.lst (x.2.map V.ref)) ∧ x.2.length = m ∧ x.1 ≠ D
  cel : ∀ (i : Nat) x (l : Nat) c, L[i]? = some x → x.2[l]? = some c → H c = some (.lst ((X i l).map V.int)) ∧ c ≠ D ∧ ∀ y ∈ L, c ≠ y.1
  inj : ∀ (i : Nat) x (l j : Nat) y (l' : Nat) c, L[i]? = some x → x.2[l]? = some c → L[j]? = some y → y.2[l']? = some c → i = j ∧ l = l'
omit B in
theorem G3.same {H H' : Hp} {D : Addr} {L : List (Addr × List Addr)} {n m : Nat} {X : Nat → Nat → List Int} (g : G3 H D L n m X) (e : Same H H') : G3 H' D L n m X :=
  ⟨e _ _ g.at_, g.len, fun i x h => ⟨e _ _ (g.row i x h).1, (g.row i x h).2⟩, fun i x l c h h2 => ⟨e _ _ (g.cel i x l c h h2).1, (g.cel i x l c h h2).2⟩, g.inj⟩
omit B in
theorem G3.nil {H : Hp} {D : Addr} {m : Nat} {X : Nat → Nat → List Int} (h : H D = some (.lst [])) : G3 H D [] 0 m X :=
  ⟨h, rfl, fun i x h => by simp at h, fun i x l c h => by simp at h, fun i x l j y l' c h => by simp at h⟩
omit B in
theorem G3.get {H : Hp} {D : Addr} {L : List (Addr × List Addr)} {n m i l : Nat} {X : Nat → Nat → List Int} (g : G3 H D L n m X) (hi : i < n) (hl : l < m) : ∃ (x : Addr × List Addr) (c : Addr), L[i]? = some x ∧ x.2[l]? = some c ∧ atI (L.map fun x => V.ref x.1) (i : Int) = some (.ref x.1) ∧ H x.1 = some (.lst (x.2.map V.ref)) ∧ atI (x.2.map V.ref) (l : Int) = some (.ref c) ∧ H c = some (.lst ((X i l).map V.int)) := by
  have h1 : i < L.length := by rw [g.len]; exact hi
  have e1 := List.getElem?_eq_getElem h1
  obtain ⟨r1, r2, _⟩ := g.row i _ e1
  have h2 : l < L[i].2.length := by rw [r2]; exact hl
  have e2 := List.getElem?_eq_getElem h2
  exact ⟨L[i], L[i].2[l], e1, e2, atI_nat (by rw [List.getElem?_map, e1] <;> rfl), r1, atI_nat (by rw [List.getElem?_map, e2] <;> rfl), (g.cel i _ l _ e1 e2).1⟩
omit B in
/-- a cell is written -/
theorem G3.upd {H H' : Hp} {D c : Addr} {L : List (Addr × List Addr)} {n m i l : Nat} {x : Addr × List Addr} {X Y : Nat → Nat → List Int} (g : G3 H D L n m X) (ex : L[i]? = some x) (ec : x.2[l]? = some c) (b : But c H H') (o : H' c = some (.lst ((Y i l).map V.int))) (h : ∀ i' l', ¬ (i' = i ∧ l' = l) → Y i' l' = X i' l') : G3 H' D L n m Y := by
  obtain ⟨_, c2, c3⟩ := g.cel i x l c ex ec
  refine ⟨b _ _ (fun z => c2 z.symm) g.at_, g.len, fun i' x' h' => ?_, fun i' x' l' c' h1 h2 => ?_, g.inj⟩
  · obtain ⟨q1, q2, q3⟩ := g.row i' x' h'
    exact ⟨b _ _ (fun z => c3 x' (List.mem_of_getElem? h') z.symm) q1, q2, q3⟩
  · obtain ⟨d1, d2, d3⟩ := g.cel i' x' l' c' h1 h2
    refine ⟨?_, d2, d3⟩
    by_cases e : i' = i ∧ l' = l
    · obtain ⟨rfl, rfl⟩ := e
      cases (Option.some.inj (ex.symm.trans h1))
      cases (Option.some.inj (ec.symm.trans h2))
      exact o
    · rw [h i' l' e]
      refine b _ _ (fun z => e ?_) d1
      rw [z] at h2
      exact g.inj i' x' l' i x l c h1 h2 ex ec
omit B in
/-- a row is put behind -/
theorem G3.snoc {H H' : Hp} {D R : Addr} {cs : List Addr} {L : List (Addr × List Addr)} {n m : Nat} {X : Nat → Nat → List Int} (g : G3 H D L n m X) (b : But D H H') (o : H' D = some (.lst ((L.map fun x => V.ref x.1) ++ [.ref R])))
    (hR : H' R = some (.lst (cs.map V.ref))) (nR : R ≠ D) (lc : cs.length = m) (nd : cs.Nodup) (hc : ∀ (l : Nat) c, cs[l]? = some c → H' c = some (.lst ((X n l).map V.int)) ∧ c ≠ D ∧ c ≠ R)
    (new1 : ∀ c ∈ cs, (∀ y ∈ L, c ≠ y.1) ∧ ∀ y ∈ L, c ∉ y.2) (new2 : ∀ y ∈ L, R ∉ y.2) : G3 H' D (L ++ [(R, cs)]) (n + 1) m X := by
  have at_ : ∀ (i : Nat) x, (L ++ [(R, cs)])[i]? = some x → (i < n ∧ L[i]? = some x) ∨ (i = n ∧ x = (R, cs)) := fun i x h => by
    by_cases q : i < L.length
    · rw [List.getElem?_append_left q] at h
      exact .inl ⟨by rw [← g.len]; exact q, h⟩
    · rw [List.getElem?_append_right (by omega)] at h
      have h1 := (List.getElem?_eq_some_iff.mp h).1
      have h2 : [(R, cs)].length = 1 := rfl
      obtain rfl : i = L.length := by omega
      rw [Nat.sub_self] at h
      exact .inr ⟨g.len, (Option.some.inj h).symm⟩
  refine ⟨by rw [o, List.map_append] <;> rfl, by rw [List.length_append, g.len] <;> rfl, fun i x h => ?_, fun i x l c h1 h2 => ?_, fun i x l j y l' c h1 h2 h3 h4 => ?_⟩
  · rcases at_ i x h with ⟨_, z⟩ | ⟨_, rfl⟩
    · obtain ⟨q1, q2, q3⟩ := g.row i x z
      exact ⟨b _ _ q3 q1, q2, q3⟩
    · exact ⟨hR, lc, nR⟩
  · rcases at_ i x h1 with ⟨_, z⟩ | ⟨rfl, rfl⟩
    · obtain ⟨d1, d2, d3⟩ := g.cel i x l c z h2
      refine ⟨b _ _ d2 d1, d2, fun y hy => ?_⟩
      rcases List.mem_append.mp hy with w | w
      · exact d3 y w
      · cases List.mem_singleton.mp w
        exact fun e => new2 x (List.mem_of_getElem? z) (by have e' : c = R := e; rw [← e']; exact List.mem_of_getElem? h2)
    · obtain ⟨d1, d2, d3⟩ := hc l c h2
      refine ⟨d1, d2, fun y hy => ?_⟩
      rcases List.mem_append.mp hy with w | w
      · exact (new1 c (List.mem_of_getElem? h2)).1 y w
      · cases List.mem_singleton.mp w
        exact d3
  · rcases at_ i x h1 with ⟨a1, z⟩ | ⟨a1, rfl⟩ <;> rcases at_ j y h3 with ⟨a2, z2⟩ | ⟨a2, rfl⟩
    · exact g.inj i x l j y l' c z h2 z2 h4
    · exact absurd (List.mem_of_getElem? h2) ((new1 c (List.mem_of_getElem? h4)).2 x (List.mem_of_getElem? z))
    · exact absurd (List.mem_of_getElem? h4) ((new1 c (List.mem_of_getElem? h2)).2 y (List.mem_of_getElem? z2))
    · exact ⟨a1.trans a2.symm, nd_ix nd h2 h4⟩
/-- unlike ones of a list -/
def Uq (out xs : List Int) : Prop := out.Nodup ∧ ∀ y, y ∈ out ↔ y ∈ xs
omit B in
theorem Uq.len {out xs : List Int} (u : Uq out xs) : out.length ≤ xs.length := nd_len u.1 fun y hy => (u.2 y).mp hy
omit B in
theorem inV_ints {b : Int} {xs : List Int} : inV (.int b) (xs.map V.int) = decide (b ∈ xs) := by
  unfold inV
  rw [Bool.eq_iff_iff, List.any_eq_true, decide_eq_true_iff]
  constructor
  · rintro ⟨y, hy, e⟩
    obtain ⟨z, hz, rfl⟩ := List.mem_map.mp hy
    have : z = b := by simpa [eqV] using e
    rw [← this]
    exact hz
  · intro h
    exact ⟨_, List.mem_map.mpr ⟨b, h, rfl⟩, by simp [eqV]⟩
omit B in
theorem flat_ints (xs : List Int) : (xs.map V.int).all flatV = true := by
  rw [List.all_eq_true]
  intro y hy
  obtain ⟨z, _, rfl⟩ := List.mem_map.mp hy
  rfl
omit B in
theorem Uq.old {out xs : List Int} {b : Int} (u : Uq out xs) (h : b ∈ out) : Uq out (xs ++ [b]) := ⟨u.1, fun y => by
  rw [List.mem_append, List.mem_singleton]
  exact ⟨fun z => .inl ((u.2 y).mp z), fun z => by rcases z with z | rfl; exact (u.2 y).mpr z; exact h⟩⟩
omit B in
theorem Uq.new {out xs : List Int} {b : Int} (u : Uq out xs) (h : b ∉ out) : Uq (out ++ [b]) (xs ++ [b]) := ⟨by
  rw [List.nodup_append]
  exact ⟨u.1, by simp, fun a ha c hc z => h (by rw [← List.mem_singleton.mp hc, ← z]; exact ha)⟩, fun y => by
  rw [List.mem_append, List.mem_append, u.2]⟩
def spUnl99 (K : PySem.W.Frag) : Sp := fun vs H Q _ => ∃ (k nb : Nat) (A : Addr) (as : List Ak), vs = [.int k, .ref A] ∧ k ≤ 4 ∧ AsksAt H A as nb ∧ as.length ≤ 16 ∧ (∀ x ∈ as, x.hand.toNat < 2 ^ k) ∧
  ∀ D rs (nn : Nat → Nat → Nat) H', Same H H' → (∀ lv l, lv ≤ k → l < 2 ^ k → Dst (bxs k lv as l) (nn lv l)) → GvAt H' D rs (k + 1) (fun lv => ((List.range (2 ^ k)).map fun l => ((nn lv l : Nat) : Int)).map V.int) → Q (.ref D) H'
theorem k__law_unlike_boxes (D : Df K mg "_law_unlike_boxes" s__law_unlike_boxes ["_law_k", "_law_asks"]) (D_way : Dn P w K mg base 4 "way" ["k", "hand", "side"] spWay) : Dn P w K mg base 5 "_law_unlike_boxes" ["_law_k", "_law_asks"] (spUnl99 K) := by
  refine D.ok fun f fd F => okG0 F sc__law_unlike_boxes (fun vs H Q E h => ?_) (fun cdv A outer s H vs Q E hr h => ⟨_, (pss_cons (ps_setLc (i := 4) (own := [("_law_level", 2)]) (g := gName 2) (tt := tYes) rfl sc__law_unlike_boxes.nd rfl rfl (sw_true rfl rfl rfl (by decide +kernel)) (pi_range1 (by rfl) B.range_ (pa_cons (pe_op op_add (pv 0) pe_int) pa_nil)) (blkOk_by (own := [("_law_level", 2)]) (N := ["_law_k", "_law_asks", "_law_level", "_law_line", "_law_found", "_law_hand", "_law_box", "_law_deed_here", "_law_row", "_law_boxes_here"]) (sc := defScope s__law_unlike_boxes) (by decide +kernel)) (fun _ _ _ _ _ => (pg_name (i := 2) sc__law_unlike_boxes.nd rfl (Or.inl rfl))) (fun _ _ _ _ _ => pts_nil) (fun _ _ _ _ _ => (pe_lc (own := [("_law_line", 3)]) (g := gName 3) (tt := tYes) rfl sc__law_unlike_boxes.nd (pi_range1 (by rfl) B.range_ (pa_cons (pe_op op_shlW pe_int (pv 0)) pa_nil)) (blkOk_nest (own := [("_law_line", 3)]) (N := ["_law_k", "_law_asks", "_law_level", "_law_line", "_law_found", "_law_hand", "_law_box", "_law_deed_here", "_law_row", "_law_boxes_here"]) rfl (by decide +kernel)) (fun _ _ _ _ _ => (pg_name (i := 3) sc__law_unlike_boxes.nd rfl (Or.inl rfl))) (fun _ _ _ _ _ => pts_nil) (fun _ _ _ _ _ => (pe_lst pa_nil)))))
    (pss_cons (ps_for PassesOwn.never rfl (kk (K := K) (F := fun K => iTup K _) (P := PI _ _ _) (pi_tup (pv 1))) (kk (K := K) (F := fun K => gTup K 3 _) (P := PG _ _) (pg_tup rfl (pgs_cons (pg_name (i := 5) sc__law_unlike_boxes.nd rfl (Or.inl rfl)) (pgs_cons (pg_name (i := 6) sc__law_unlike_boxes.nd rfl (Or.inl rfl)) (pgs_cons (pg_name (i := 7) sc__law_unlike_boxes.nd rfl (Or.inl rfl)) pgs_nil)))))
      (pss_one (ps_for PassesOwn.never rfl (kk (K := K) (F := fun K => iEnumT K _) (P := PI _ _ _) (pi_enumT (by rfl) B.enumerate_ (pa_cons (pe_cD D_way (hr.less (by decide)) rfl (pa_cons (pv 0) (pa_cons (pv 5) (pa_cons (pe_op op_mod (pv 6) (pe_op op_shlW pe_int (pv 0))) pa_nil)))) pa_nil))) (kk (K := K) (F := fun K => gTup K 2 _) (P := PG _ _) (pg_tup rfl (pgs_cons (pg_name (i := 2) sc__law_unlike_boxes.nd rfl (Or.inl rfl)) (pgs_cons (pg_name (i := 3) sc__law_unlike_boxes.nd rfl (Or.inl rfl)) pgs_nil))))
       (pss_one (ps_if (pt_cmpR (kk (K := K) (F := fun K => rIn K true) (P := OpR _ _) op_notIn_seq) (pv 6) (pe_ix (kk (K := K) (F := rIxL) (P := IxR _) ix_list) (pe_ix (kk (K := K) (F := rIxL) (P := IxR _) ix_list) (pv 4) (pv 2) (fun _ _ => rfl)) (pv 3) (fun _ _ => rfl)) (by rfl))
        (pss_one (ps_expr (kk (K := K) (F := fun K => tBM K "list" _ _ _) (P := PE _ _) (pe_bm PySem.F.plainAttrs_list PySem.F.slot_list_append PySem.F.type_list_append mt_append (pe_ix (kk (K := K) (F := rIxL) (P := IxR _) ix_list) (pe_ix (kk (K := K) (F := rIxL) (P := IxR _) ix_list) (pv 4) (pv 2) (fun _ _ => rfl)) (pv 3) (fun _ _ => rfl)) (pa_cons (pv 6) pa_nil)))))
        pss_nil)))))
    (pss_one (ps_ret (pe_lc (own := [("_law_row", 8)]) (g := gName 8) (tt := tYes) rfl sc__law_unlike_boxes.nd (kk (K := K) (F := fun K => iList K _) (P := PI _ _ _) (pi_list (pv 4))) (blkOk_by (own := [("_law_row", 8)]) (N := ["_law_k", "_law_asks", "_law_level", "_law_line", "_law_found", "_law_hand", "_law_box", "_law_deed_here", "_law_row", "_law_boxes_here"]) (sc := defScope s__law_unlike_boxes) (by decide +kernel)) (fun _ _ _ _ _ => (pg_name (i := 8) sc__law_unlike_boxes.nd rfl (Or.inl rfl))) (fun _ _ _ _ _ => pts_nil) (fun _ _ _ _ _ => (pe_lc (own := [("_law_boxes_here", 9)]) (g := gName 9) (tt := tYes) rfl sc__law_unlike_boxes.nd (kk (K := K) (F := fun K => iList K _) (P := PI _ _ _) (pi_list (pv 8))) (blkOk_nest (own := [("_law_boxes_here", 9)]) (N := ["_law_k", "_law_asks", "_law_level", "_law_line", "_law_found", "_law_hand", "_law_box", "_law_deed_here", "_law_row", "_law_boxes_here"]) rfl (by decide +kernel)) (fun _ _ _ _ _ => (pg_name (i := 9) sc__law_unlike_boxes.nd rfl (Or.inl rfl))) (fun _ _ _ _ _ => pts_nil) (fun _ _ _ _ _ => (pe_callB (lenK (K := K)) (by rfl) B.len_ (by decide +kernel) (pa_cons (pv 9) pa_nil)))))))))), ?_⟩)
  · obtain ⟨k, nb, A, as, rfl, _⟩ := h; rfl
  · obtain ⟨k, nb, A, as, rfl, hk, hA, h16, hh, q⟩ := h
    have sh : CShl 1 (k : Int) := shl_ok (by omega)
    have l16 := two_k16 hk
    have eL : (1 : Int) * 2 ^ ((k : Nat) : Int).toNat = ((2 ^ k : Nat) : Int) := shl_2k
    have ps : (0 : Int) < (1 : Int) * 2 ^ ((k : Nat) : Int).toNat := by rw [eL]; have := Nat.two_pow_pos k; omega
    try walk_at "go"
    intro D hD
    have e5 : (((k : Nat) : Int) + 1).toNat = k + 1 := by omega
    rw [e5]
    refine lc_range (lo := 0) (n := k + 1) (fun i H' => Kept (∃ L : List (Addr × List Addr), Same H H' ∧ G3 H' D L i (2 ^ k) (fun _ _ => []) ∧ ∀ x ∈ L, ∀ c ∈ x.2, H c = none)) ⟨[], same_new hD _, G3.nil upd_same, fun x h => absurd h List.not_mem_nil⟩ ?_ ?_
    · rintro i H2 hi2 ⟨L, S2, G2, r2⟩
      have at2 := G2.at_
      have ul : (L.map fun x => V.ref x.1).length ≤ 100 := by rw [List.length_map, G2.len]; omega
      try walk_at "go"
      intro R hR
      rw [eL, Int.toNat_natCast]
      refine lc_range (lo := 0) (n := 2 ^ k) (fun i H' => Kept (∃ rs : List Addr, Same H2 H' ∧ H' R = some (.lst (rs.map V.ref)) ∧ rs.length = i ∧ rs.Nodup ∧ ∀ a ∈ rs, H2 a = none ∧ a ≠ R ∧ H' a = some (.lst []))) ⟨[], same_new hR _, upd_same, rfl, List.nodup_nil, fun a h => absurd h List.not_mem_nil⟩ ?_ ?_
      · rintro i H3 hi ⟨rs, S3, hR3, lr3, nd3, er3⟩
        have ul : (rs.map V.ref).length ≤ 20 := by rw [List.length_map]; omega
        try walk_at "go"
        intro E hE
        generalize eH4 : upd _ E _ = H4
        have SH4 := newS eH4 hE
        have oE := newO eH4
        have hR4 := SH4 _ _ hR3
        have nER : E ≠ R := fun z => by rw [z, hR3] at hE; cases hE
        have nEr : E ∉ rs := fun z => by rw [(er3 E z).2.2] at hE; cases hE
        try walk_at "go"
        refine ⟨⟨rs ++ [E], but_same hR (S3.trans SH4) But.upd, by rw [upd_same, List.map_append] <;> rfl, by rw [List.length_append, lr3] <;> rfl, ?_, fun a ha => ?_⟩⟩
        · rw [List.nodup_append]
          exact ⟨nd3, by simp, fun a ha b hb z => nEr (by rw [← List.mem_singleton.mp hb, ← z]; exact ha)⟩
        · rcases List.mem_append.mp ha with z | z
          · obtain ⟨g1, g2, g3⟩ := er3 a z
            exact ⟨g1, g2, by rw [upd_ne g2]; exact SH4 _ _ g3⟩
          · cases List.mem_singleton.mp z
            exact ⟨none_back S3 hE, nER, by rw [upd_ne nER]; exact oE⟩
      rintro H3 ⟨rs, S3, hR3, lr3, nd3, er3⟩
      have G3' := G2.same S3
      have at3 := G3'.at_
      try walk_at "go"
      have nRD : R ≠ D := fun z => by rw [z, at2] at hR; cases hR
      refine ⟨⟨L ++ [(R, rs)], but_same hD (S2.trans S3) But.upd, G3'.snoc But.upd upd_same (by rw [upd_ne nRD]; exact hR3) nRD lr3 nd3 (fun l c hc => ?_) (fun c hc => ?_) (fun y hy z => ?_), fun x hx c hc => ?_⟩⟩
      · obtain ⟨g1, g2, g3⟩ := er3 c (List.mem_of_getElem? hc)
        have ncD : c ≠ D := fun z => by rw [z, at2] at g1; cases g1
        exact ⟨by rw [upd_ne ncD]; exact g3, ncD, g2⟩
      · obtain ⟨g1, g2, g3⟩ := er3 c hc
        refine ⟨fun y hy z => ?_, fun y hy z => ?_⟩
        · obtain ⟨j, hj, e⟩ := List.getElem_of_mem hy
          have := (G2.row j y (by rw [List.getElem?_eq_getElem hj, e])).1
          rw [← z, g1] at this
          cases this
        · obtain ⟨j, hj, e⟩ := List.getElem_of_mem hy
          obtain ⟨l, hl, e2⟩ := List.getElem_of_mem z
          have := (G2.cel j y l c (by rw [List.getElem?_eq_getElem hj, e]) (by rw [List.getElem?_eq_getElem hl, e2])).1
          rw [g1] at this
          cases this
      · obtain ⟨j, hj, e⟩ := List.getElem_of_mem hy
        obtain ⟨l, hl, e2⟩ := List.getElem_of_mem z
        have := (G2.cel j y l R (by rw [List.getElem?_eq_getElem hj, e]) (by rw [List.getElem?_eq_getElem hl, e2])).1
        rw [hR] at this
        cases this
      · rcases List.mem_append.mp hx with w | w
        · exact r2 x w c hc
        · cases List.mem_singleton.mp w
          exact none_back S2 (er3 c hc).1
    rintro H1 ⟨L, S1, G1, r1⟩
    have at1 := S1 _ _ hA.1
    try walk_at "go"
    refine for_tup (K := K) (a := A) (xs := as.map fun x => V.ref x.a) (fun i σ H' => Kept (∃ (w2 w3 w5 w6 w7 : Option V) (X : Nat → Nat → List Int), σ = [some (.int (k : Nat)), some (.ref A), w2, w3, some (.ref D), w5, w6, w7, none, none] ∧ Same H H' ∧ G3 H' D L (k + 1) (2 ^ k) X ∧ ∀ lv l, lv ≤ k → Uq (X lv l) (bxs k lv (as.take i) l))) ⟨_, _, _, _, _, fun _ _ => [], rfl, S1, G1, fun lv l _ => ⟨List.nodup_nil, fun y => by simp [bxs]⟩⟩ (fun i σ H' _ h => by obtain ⟨_, _, _, _, _, _, _, S, _⟩ := h.ex; exact SqT.of (S _ _ hA.1)) ?_ ?_
    · rintro i v σ H4 hv ⟨w2, w3, w5, w6, w7, X, rfl, S4, G4, U4⟩
      rw [List.getElem?_map] at hv
      obtain ⟨x, hx, rfl⟩ := Option.map_eq_some_iff.mp hv
      have hi2 : i < as.length := (List.getElem?_eq_some_iff.mp hx).1
      obtain ⟨xa, xd, x0, x16, xb⟩ := (hA.2.2 x (List.mem_of_getElem? hx)).same S4
      have hx2 := hh x (List.mem_of_getElem? hx)
      have eh : x.hand = ((x.hand.toNat : Nat) : Int) := (Int.toNat_of_nonneg x0).symm
      have xa : H4 x.a = some (.tup [.int ((x.hand.toNat : Nat) : Int), .int (x.box : Nat), .ref x.da]) := by rw [← eh]; exact xa
      have gl : x.box % 2 ^ k < 2 ^ k := Nat.mod_lt _ (Nat.two_pow_pos k)
      have en : x.box % ((1 : Int) * 2 ^ ((k : Nat) : Int).toNat).natAbs = x.box % 2 ^ k := by rw [eL, Int.natAbs_natCast]
      have gl2 : x.box % ((1 : Int) * 2 ^ ((k : Nat) : Int).toNat).natAbs < 2 ^ k := by rw [en]; exact gl
      try walk_at "go"
      intro W H5 S5 oW
      rw [en] at oW
      try walk_at "go"
      have S45 := S4.trans S5
      have G5 := G4.same S5
      refine for_enumT (K := K) (a := W) (xs := ((List.range (k + 1)).map (low k x.hand.toNat (x.box % 2 ^ k))).map V.int) (fun j σ H' => Kept (∃ (w2 w3 : Option V) (X : Nat → Nat → List Int), σ = [some (.int (k : Nat)), some (.ref A), w2, w3, some (.ref D), some (.int (x.hand.toNat : Nat)), some (.int (x.box : Nat)), some (.ref x.da), none, none] ∧ Same H H' ∧ H' W = some (.tup (((List.range (k + 1)).map (low k x.hand.toNat (x.box % 2 ^ k))).map V.int)) ∧ G3 H' D L (k + 1) (2 ^ k) X ∧ ∀ lv l, lv ≤ k → Uq (X lv l) (bxs k lv (as.take (if lv < j then i + 1 else i)) l))) ⟨_, _, X, rfl, S45, oW, G5, fun lv l h => by rw [if_neg (Nat.not_lt_zero lv)]; exact U4 lv l h⟩ (fun i σ H' _ h => by obtain ⟨_, _, _, _, _, o, _⟩ := h.ex; exact SqT.of o) ?_ ?_
      · rintro j v P σ H6 hv ⟨w2', w3', X, rfl, S6, oW6, G6, U6⟩ hP
        rw [List.getElem?_map, List.getElem?_map] at hv
        obtain ⟨y, hy, rfl⟩ := Option.map_eq_some_iff.mp hv
        obtain ⟨j', hj', rfl⟩ := Option.map_eq_some_iff.mp hy
        have hj : j < k + 1 := by have := (List.getElem?_eq_some_iff.mp hj').1; rwa [List.length_range] at this
        obtain rfl : j = j' := by rw [List.getElem?_range hj] at hj'; exact Option.some.inj hj'
        obtain ⟨m, em, hm⟩ : ∃ m : Nat, low k x.hand.toNat (x.box % 2 ^ k) j = (m : Int) ∧ m < 2 ^ k := by
          obtain ⟨e1, e2⟩ := low_nat (k := k) (h := x.hand.toNat) (g := x.box % 2 ^ k) (j := j) (by omega) hx2 gl (by omega)
          exact ⟨_, e1, e2⟩
        rw [em]
        generalize eH7 : upd _ P (HO.tup [.int (j : Nat), .int (m : Nat)]) = H7
        have SH7 := newS eH7 hP
        have oP := newO eH7
        have G7 := G6.same SH7
        have at7 := G7.at_
        obtain ⟨z, c, ez, ec, ar, hr, ac, hc⟩ := G7.get hj hm
        have uq := U6 j m (by omega)
        rw [if_neg (Nat.lt_irrefl j)] at uq
        have u16 : (X j m).length ≤ 16 := by
          have h1 := uq.len
          have h2 := bxs_len (k := k) (lv := j) (l := m) (as := as.take i)
          rw [List.length_take] at h2
          omega
        have tyr : tyV K "list" (.ref c) H7 := .inl ⟨rfl, _, SqL.of hc⟩
        have fl := flat_ints (X j m)
        have ul : ((X j m).map V.int).length ≤ 100 := by rw [List.length_map]; omega
        have bx : ∀ l, bxs k j (as.take i ++ [x]) l = if l = m then bxs k j (as.take i) l ++ [((x.box : Nat) : Int)] else bxs k j (as.take i) l := fun l => bxs_snoc em
        have stp : ∀ lv l, lv ≤ k → ¬ (lv = j ∧ l = m) → bxs k lv (as.take (if lv < j + 1 then i + 1 else i)) l = bxs k lv (as.take (if lv < j then i + 1 else i)) l := fun lv l hl e => by
          by_cases c : lv = j
          · subst c
            rw [if_pos (Nat.lt_succ_self lv), if_neg (Nat.lt_irrefl lv), take_snoc hx, bx, if_neg fun z => e ⟨rfl, z⟩]
          · by_cases c2 : lv < j
            · rw [if_pos c2, if_pos (by omega)]
            · rw [if_neg c2, if_neg (by omega)]
        have here : bxs k j (as.take (if j < j + 1 then i + 1 else i)) m = bxs k j (as.take i) m ++ [((x.box : Nat) : Int)] := by
          rw [if_pos (Nat.lt_succ_self j), take_snoc hx, bx, if_pos rfl]
        try walk_at "go"
        refine ite2 (fun cc => ?_) (fun cc => ?_)
        · have nin : ((x.box : Nat) : Int) ∉ X j m := fun z => by
            rw [if_pos rfl, inV_ints, decide_eq_true z] at cc
            cases cc
          try walk_at "go"
          generalize eH8 : upd H7 c (HO.lst ((X j m).map V.int ++ [.int (x.box : Nat)])) = H8
          have BH8 : But c H7 H8 := eH8 ▸ But.upd
          have oH8 : H8 c = some (HO.lst ((X j m).map V.int ++ [.int (x.box : Nat)])) := eH8 ▸ upd_same
          have S8 : Same H H8 := fun b o h => BH8 _ _ (ne_of_none h (r1 z (List.mem_of_getElem? ez) c (List.mem_of_getElem? ec))) ((S6.trans SH7) _ _ h)
          refine ⟨⟨_, _, fun lv l => if lv = j ∧ l = m then X j m ++ [((x.box : Nat) : Int)] else X lv l, rfl, S8, BH8 _ _ (ne_of (SH7 _ _ oW6) hc (by intro w; cases w)) (SH7 _ _ oW6), G7.upd (i := j) (l := m) ez ec BH8 (by rw [oH8, if_pos ⟨rfl, rfl⟩, List.map_append] <;> rfl) (fun i' l' h => if_neg h), fun lv l hl => ?_⟩⟩
          by_cases e : lv = j ∧ l = m
          · obtain ⟨rfl, rfl⟩ := e
            rw [here]
            show Uq (if lv = lv ∧ l = l then X lv l ++ [((x.box : Nat) : Int)] else X lv l) _
            rw [if_pos ⟨rfl, rfl⟩]
            exact uq.new nin
          · rw [stp lv l hl e]
            show Uq (if lv = j ∧ l = m then X j m ++ [((x.box : Nat) : Int)] else X lv l) _
            rw [if_neg e]
            exact U6 lv l hl
        · have nin : ((x.box : Nat) : Int) ∈ X j m := Decidable.byContradiction fun z => by
            rw [if_pos rfl, inV_ints, decide_eq_false z] at cc
            exact cc rfl
          refine ⟨⟨_, _, X, rfl, S6.trans SH7, SH7 _ _ oW6, G7, fun lv l hl => ?_⟩⟩
          by_cases e : lv = j ∧ l = m
          · obtain ⟨rfl, rfl⟩ := e
            rw [here]
            exact uq.old nin
          · rw [stp lv l hl e]
            exact U6 lv l hl
      rintro σ H6 ⟨w2', w3', X, rfl, S6, oW6, G6, U6⟩
      refine ⟨⟨_, _, _, _, _, X, rfl, S6, G6, fun lv l h => ?_⟩⟩
      have := U6 lv l h
      rw [List.length_map, List.length_map, List.length_range, if_pos (by omega)] at this
      exact this
    rintro σ H4 ⟨w2, w3, w5, w6, w7, X, rfl, S4, G4, U4⟩
    rw [List.length_map, List.take_length] at U4
    have at4 := G4.at_
    try walk_at "go"
    intro E hE
    refine lc_list (K := K) (a := D) (xs := L.map fun x => V.ref x.1) (fun i H' => Kept (∃ rs : List Addr, Same H4 H' ∧ GvAt H' E rs i (fun lv => ((List.range (2 ^ k)).map fun l => (((X lv l).length : Nat) : Int)).map V.int))) ⟨[], same_new hE _, ⟨upd_same, rfl, List.nodup_nil, by simp, fun lv a h => by simp at h⟩⟩ (fun i H' _ h => by obtain ⟨_, S, _⟩ := h.ex; exact SqL.of (S _ _ G4.at_)) ?_ ?_
    · rintro i v H5 hv ⟨rs, S5, G5⟩
      rw [List.getElem?_map] at hv
      obtain ⟨z, hz, rfl⟩ := Option.map_eq_some_iff.mp hv
      have hi : i < k + 1 := by rw [← G4.len]; exact (List.getElem?_eq_some_iff.mp hz).1
      obtain ⟨z1, z2, _⟩ := G4.row i z hz
      have z5 := S5 _ _ z1
      have at5 := G5.at_
      have ul : (rs.map V.ref).length ≤ 100 := by rw [List.length_map, G5.len]; omega
      try walk_at "go"
      intro F hF
      refine lc_list (K := K) (a := z.1) (xs := z.2.map V.ref) (fun l H' => Kept (Same H5 H' ∧ H' F = some (.lst ((((List.range (2 ^ k)).map fun l => (((X i l).length : Nat) : Int)).take l).map V.int)))) ⟨same_new hF _, upd_same⟩ (fun i H' _ h => SqL.of (h.ex.1 _ _ z5)) ?_ ?_
      · rintro l v H6 hv ⟨S6, hF6⟩
        rw [List.getElem?_map] at hv
        obtain ⟨c, hc, rfl⟩ := Option.map_eq_some_iff.mp hv
        have hl : l < 2 ^ k := by rw [← z2]; exact (List.getElem?_eq_some_iff.mp hc).1
        have c6 := (S5.trans S6) _ _ (G4.cel i z l c hz hc).1
        have e9 : ((List.range (2 ^ k)).map fun l => (((X i l).length : Nat) : Int))[l]? = some (((X i l).length : Nat) : Int) := by rw [List.getElem?_map, List.getElem?_range hl] <;> rfl
        have ul : ((((List.range (2 ^ k)).map fun l => (((X i l).length : Nat) : Int)).take l).map V.int).length ≤ 100 := by rw [List.length_map, List.length_take, List.length_map, List.length_range]; omega
        try walk_at "go"
        refine ⟨⟨but_same hF S6 But.upd, ?_⟩⟩
        rw [upd_same, take_snoc e9, List.map_append, List.length_map]
        rfl
      rintro H6 ⟨S6, hF6⟩
      rw [List.length_map, z2, show ((List.range (2 ^ k)).map fun l => (((X i l).length : Nat) : Int)).take (2 ^ k) = (List.range (2 ^ k)).map fun l => (((X i l).length : Nat) : Int) from List.take_of_length_le (by rw [List.length_map, List.length_range]; exact Nat.le_refl _)] at hF6
      have G6 := G5.same S6
      have at6 := G6.at_
      have nFE : F ≠ E := fun z => by rw [z, at5] at hF; cases hF
      have nFr : F ∉ rs := fun z => by
        obtain ⟨lv, hl, e⟩ := List.getElem_of_mem z
        have := G5.row lv F (by rw [List.getElem?_eq_getElem hl, e])
        rw [hF] at this
        cases this
      try walk_at "go"
      refine ⟨⟨rs ++ [F], but_same hE (S5.trans S6) But.upd, G6.snoc But.upd (by rw [upd_ne nFE]; exact hF6) nFr nFE upd_same⟩⟩
    rintro H5 ⟨rs, S5, G5⟩
    rw [List.length_map, G4.len] at G5
    try walk_at "go"
    exact q E rs (fun lv l => (X lv l).length) H5 (S4.trans S5) (fun lv l hl _ => ⟨X lv l, (U4 lv l hl).1, (U4 lv l hl).2, rfl⟩) G5
/-! SPLIT -/
/-! ### joined loads: the plain law -/
omit B in
theorem low_fg : ∀ k, k < 5 → ∀ h, h < 2 ^ k → ∀ g, g < 2 ^ k → ∀ j, j < k → fg k (low k h g j).toNat (j + 1) = fg k h (j + 1) := by decide +kernel
omit B in
theorem low_det {k g h h' lv : Nat} (hk : k < 5) (hg : g < 2 ^ k) (hh : h < 2 ^ k) (hh' : h' < 2 ^ k) (hl : lv < k) (e : low k h g lv = low k h' g lv) : low k h g (lv + 1) = low k h' g (lv + 1) := by
  have f1 := low_fg k hk h hh g hg lv hl
  have f2 := low_fg k hk h' hh' g hg lv hl
  rw [low_step k hk h hh g hg lv hl, low_step k hk h' hh' g hg lv hl, ← f1, ← f2, e]
def kyA (k lv : Nat) (x : Ak) : List Key := [.inl (low k x.hand.toNat (x.box % 2 ^ k) lv), .inl (x.box : Nat)]
omit B in
theorem crs0_ky {k lv : Nat} {as : List Ak} : (crs0 as).map (ky k lv) = as.map (kyA k lv) := by
  unfold crs0
  rw [List.map_map]
  have e : as.zipIdx.map (fun x => x.1) = as := by
    refine List.ext_getElem? fun i => ?_
    rw [List.getElem?_map, List.getElem?_zipIdx]
    cases as[i]? <;> rfl
  have e2 : as.zipIdx.map (ky k lv ∘ fun x => Cr.one x.2 x.1) = (as.zipIdx.map fun x => x.1).map (kyA k lv) := by
    rw [List.map_map]
    exact List.map_congr_left fun x _ => rfl
  rw [e2, e]
omit B in
theorem jn_keys {k nb : Nat} {s : Nat → Nat → Int} {as : List Ak} (hk : k ≤ 4) (hin : ∀ x ∈ as, x.hand.toNat < 2 ^ k ∧ x.box < nb) (h0 : ∀ x ∈ as, 0 ≤ x.hand) (nd : (as.map fun x => x.hand).Nodup) :
    ∀ lv, lv ≤ k → Uk k lv (lvl k s as lv) ∧ ∀ y, y ∈ (lvl k s as lv).map (ky k lv) ↔ y ∈ as.map (kyA k lv) := by
  intro lv
  induction lv with
  | zero =>
    intro _
    have e : (lvl k s as 0).map (ky k 0) = as.map (kyA k 0) := crs0_ky
    refine ⟨?_, fun y => by rw [e]⟩
    unfold Uk
    rw [e]
    refine List.pairwise_map.mpr ((List.pairwise_map.mp nd).imp_of_mem fun {a b} ha hb n z => n ?_)
    have h1 := List.cons.inj z
    have h2 := Sum.inl.inj h1.1
    rw [low_zero k (by omega) _ (hin a ha).1 _ (Nat.mod_lt _ (Nat.two_pow_pos k)), low_zero k (by omega) _ (hin b hb).1 _ (Nat.mod_lt _ (Nat.two_pow_pos k))] at h2
    have := h0 a ha
    have := h0 b hb
    omega
  | succ lv ih =>
    intro hl
    obtain ⟨i1, i2⟩ := ih (by omega)
    obtain ⟨b1, b2⟩ := bhd_uk (k := k) (st := lv + 1) (s := s) (row := lvl k s as lv)
    refine ⟨b1, fun y => (b2 y).trans ?_⟩
    have step : ∀ (c : Cr) (x : Ak), c ∈ lvl k s as lv → x ∈ as → ky k lv c = kyA k lv x → ky k (lv + 1) c = kyA k (lv + 1) x := by
      intro c x hc hx e
      have h1 := List.cons.inj e
      have h2 : lnC k lv c = low k x.hand.toNat (x.box % 2 ^ k) lv := Sum.inl.inj h1.1
      have h3 : ((c.box : Nat) : Int) = ((x.box : Nat) : Int) := Sum.inl.inj (List.cons.inj h1.2).1
      have h4 : c.box = x.box := by omega
      obtain ⟨c1, _⟩ := (lvl_in hin lv c hc).hd
      have eg : goal k c = x.box % 2 ^ k := by unfold goal; rw [h4]
      unfold lnC at h2
      rw [eg] at h2
      have h5 := low_det (k := k) (by omega) (Nat.mod_lt _ (Nat.two_pow_pos k)) c1 (hin x hx).1 (by omega) h2
      show [Sum.inl (low k c.hand (goal k c) (lv + 1)), Sum.inl ((c.box : Nat) : Int)] = [Sum.inl (low k x.hand.toNat (x.box % 2 ^ k) (lv + 1)), Sum.inl ((x.box : Nat) : Int)]
      rw [eg, h5, h4]
    constructor
    · intro z
      obtain ⟨c, hc, rfl⟩ := List.mem_map.mp z
      obtain ⟨x, hx, e⟩ := List.mem_map.mp ((i2 _).mp (List.mem_map.mpr ⟨c, hc, rfl⟩))
      exact List.mem_map.mpr ⟨x, hx, (step c x hc hx e.symm).symm⟩
    · intro z
      obtain ⟨x, hx, rfl⟩ := List.mem_map.mp z
      obtain ⟨c, hc, e⟩ := List.mem_map.mp ((i2 _).mpr (List.mem_map.mpr ⟨x, hx, rfl⟩))
      exact List.mem_map.mpr ⟨c, hc, step c x hc hx e⟩
omit B in
theorem count_filter {α : Type} {f : α → Int} {l : Int} : ∀ xs : List α, (xs.map f).count l = (xs.filter fun x => decide (f x = l)).length
  | [] => rfl
  | x :: xs => by
    rw [List.map_cons, List.count_cons, List.filter_cons, count_filter xs]
    by_cases c : f x = l
    · rw [decide_eq_true c]
      simp [c]
    · rw [decide_eq_false c]
      simp [c]
omit B in
/-- so many unlike boxes -/
theorem jn_count {k nb : Nat} {s : Nat → Nat → Int} {as : List Ak} (hk : k ≤ 4) (hin : ∀ x ∈ as, x.hand.toNat < 2 ^ k ∧ x.box < nb) (h0 : ∀ x ∈ as, 0 ≤ x.hand) (nd : (as.map fun x => x.hand).Nodup) {lv : Nat} (hl : lv ≤ k) (l : Nat) :
    Dst (bxs k lv as l) (((lvl k s as lv).map (lnC k lv)).count (l : Int)) := by
  obtain ⟨u1, u2⟩ := jn_keys (s := s) hk hin h0 nd lv hl
  refine ⟨((lvl k s as lv).filter fun c => decide (lnC k lv c = (l : Int))).map fun c => ((c.box : Nat) : Int), ?_, fun y => ?_, by rw [List.length_map, count_filter]⟩
  · refine List.pairwise_map.mpr (((List.pairwise_map.mp u1).filter _).imp_of_mem fun {a b} ha hb n z => n ?_)
    have ea : lnC k lv a = (l : Int) := by simpa using (List.mem_filter.mp ha).2
    have eb : lnC k lv b = (l : Int) := by simpa using (List.mem_filter.mp hb).2
    exact ky_eq.mpr ⟨ea.trans eb.symm, by omega⟩
  · unfold bxs
    constructor
    · intro z
      obtain ⟨c, hc, rfl⟩ := List.mem_map.mp z
      obtain ⟨c1, c2⟩ := List.mem_filter.mp hc
      have c3 : lnC k lv c = (l : Int) := by simpa using c2
      obtain ⟨x, hx, e⟩ := List.mem_map.mp ((u2 _).mp (List.mem_map.mpr ⟨c, c1, rfl⟩))
      have h1 := List.cons.inj e
      have h2 : low k x.hand.toNat (x.box % 2 ^ k) lv = lnC k lv c := Sum.inl.inj h1.1
      have h3 : ((x.box : Nat) : Int) = ((c.box : Nat) : Int) := Sum.inl.inj (List.cons.inj h1.2).1
      exact List.mem_map.mpr ⟨x, List.mem_filter.mpr ⟨hx, decide_eq_true (h2.trans c3)⟩, h3⟩
    · intro z
      obtain ⟨x, hx, rfl⟩ := List.mem_map.mp z
      obtain ⟨x1, x2⟩ := List.mem_filter.mp hx
      have x3 : low k x.hand.toNat (x.box % 2 ^ k) lv = (l : Int) := by simpa using x2
      obtain ⟨c, hc, e⟩ := List.mem_map.mp ((u2 _).mpr (List.mem_map.mpr ⟨x, x1, rfl⟩))
      have h1 := List.cons.inj e
      have h2 : lnC k lv c = low k x.hand.toNat (x.box % 2 ^ k) lv := Sum.inl.inj h1.1
      have h3 : ((c.box : Nat) : Int) = ((x.box : Nat) : Int) := Sum.inl.inj (List.cons.inj h1.2).1
      exact List.mem_map.mpr ⟨c, List.mem_filter.mpr ⟨hc, decide_eq_true (h2.trans x3)⟩, h3⟩
omit B in
theorem pl_count {k lv : Nat} {as : List Ak} (l : Nat) : ((plL k as lv).count (l : Int)) = (bxs k lv as l).length := by
  unfold plL bxs
  rw [count_filter, List.length_map]
omit B in
theorem Dst.uniq {xs : List Int} {n m : Nat} (a : Dst xs n) (b : Dst xs m) : n = m := by
  obtain ⟨o1, n1, h1, rfl⟩ := a
  obtain ⟨o2, n2, h2, rfl⟩ := b
  exact Nat.le_antisymm (nd_len n1 fun y hy => (h2 y).mpr ((h1 y).mp hy)) (nd_len n2 fun y hy => (h1 y).mpr ((h2 y).mp hy))
omit B in
theorem Dst.le {xs : List Int} {n : Nat} (a : Dst xs n) : n ≤ xs.length := by
  obtain ⟨o1, n1, h1, rfl⟩ := a
  exact nd_len n1 fun y hy => (h1 y).mp hy
omit B in
/-- what is due is what is told -/
theorem due_eq {k lv : Nat} {as : List Ak} {j : Bool} {f : List Int} {g : Nat → Nat} (hl : f.length = 2 ^ k) (h : ∀ l, l < 2 ^ k → ∃ n : Nat, f[l]? = some (n : Int) ∧ DueN j k lv as l n) (hg : ∀ l, l < 2 ^ k → DueN j k lv as l (g l)) : f = (List.range (2 ^ k)).map fun l => ((g l : Nat) : Int) := by
  refine List.ext_getElem? fun l => ?_
  by_cases c : l < 2 ^ k
  · obtain ⟨n, e, d1, d2⟩ := h l c
    obtain ⟨g1, g2⟩ := hg l c
    have en : n = g l := by
      cases j with
      | false => rw [d1 rfl, g1 rfl]
      | true => exact (d2 rfl).uniq (g2 rfl)
    rw [e, en, List.getElem?_map, List.getElem?_range c] <;> rfl
  · rw [List.getElem?_eq_none (by omega), List.getElem?_eq_none (by rw [List.length_map, List.length_range]; omega)]
omit B in
theorem GvAt.congr {H : Hp} {D : Addr} {rs : List Addr} {n : Nat} {f g : Nat → List V} (G : GvAt H D rs n f) (h : ∀ lv, lv < n → f lv = g lv) : GvAt H D rs n g := ⟨G.at_, G.len, G.nd, G.ne, fun lv a e => by
  rw [← h lv (by rw [← G.len]; exact (List.getElem?_eq_some_iff.mp e).1)]
  exact G.row lv a e⟩
omit B in
theorem jnL_cnts {k nb : Nat} {as : List Ak} {nn : Nat → Nat → Nat} (hk : k ≤ 4) (hin : ∀ x ∈ as, x.hand.toNat < 2 ^ k ∧ x.box < nb) (h0 : ∀ x ∈ as, 0 ≤ x.hand) (nd : (as.map fun x => x.hand).Nodup) (dst : ∀ lv l, lv ≤ k → l < 2 ^ k → Dst (bxs k lv as l) (nn lv l)) {lv : Nat} (hl : lv ≤ k) :
    (List.range (2 ^ k)).map (fun l => ((nn lv l : Nat) : Int)) = cnts (2 ^ k) (jnL k as lv) := by
  unfold cnts
  refine List.map_congr_left fun l hm => ?_
  have e := (dst lv l hl (List.mem_range.mp hm)).uniq (jn_count (s := fun _ _ => 0) hk hin h0 nd hl l)
  rw [e]
  rfl
def spJR99 (K : PySem.W.Frag) : Sp := fun vs H Q _ => ∃ (k : Nat) (b A : Addr) (bs : List Int) (as : List Ak), vs = [.int k, .ref b, .ref A] ∧ k ≤ 4 ∧ RnAt H k b A bs as ∧ as.length ≤ 16 ∧ ∀ H', Same H H' → Q (.bl true) H'
theorem k__law_joined_right (D : Df K mg "_law_joined_right" s__law_joined_right ["_law_k", "_law_board", "_law_asks"]) (D_joined_loads : Dn P w K mg base 9 "joined_loads" ["k", "board", "asks"] (spJoinedL K)) (D__law_are_rows : Dn P w K mg base 1 "_law_are_rows" ["_law_told", "_law_due_here"] (spRows99 K)) (D__law_unlike_boxes : Dn P w K mg base 5 "_law_unlike_boxes" ["_law_k", "_law_asks"] (spUnl99 K)) : Dn P w K mg base 10 "_law_joined_right" ["_law_k", "_law_board", "_law_asks"] (spJR99 K) := by
  refine D.ok fun f fd F => okG0 F sc__law_joined_right (fun vs H Q E h => ?_) (fun cdv A outer s H vs Q E hr h => ⟨_, (pss_cons (ps_set (i := 3) sc__law_joined_right.nd rfl (Or.inl rfl) (pe_cD D_joined_loads (hr.less (by decide)) rfl (pa_cons (pv 0) (pa_cons (pv 1) (pa_cons (pv 2) pa_nil)))))
    (pss_cons (ps_if (pt_not (pt_val (pe_cD D__law_are_rows (hr.less (by decide)) rfl (pa_cons (pv 3) (pa_cons (pe_cD D__law_unlike_boxes (hr.less (by decide)) rfl (pa_cons (pv 0) (pa_cons (pv 2) pa_nil))) pa_nil)))))
      (pss_one (ps_ret pe_bl))
      pss_nil)
    (pss_one (ps_ret (pe_or (pe_cmpR op_gt (kk (K := K) (F := fun K => tLenSetU K _) (P := PE _ _) (pe_lenSetU rfl B.len_ rfl B.set_ (pe_lc (own := [("_law_hand", 4), ("_law_box", 5), ("_law_deed_here", 6)]) (tt := tYes) rfl sc__law_joined_right.nd (kk (K := K) (F := fun K => iTup K _) (P := PI _ _ _) (pi_tup (pv 2))) (blkOk_by (own := [("_law_hand", 4), ("_law_box", 5), ("_law_deed_here", 6)]) (N := ["_law_k", "_law_board", "_law_asks", "_law_told", "_law_hand", "_law_box", "_law_deed_here", "_law_row"]) (sc := defScope s__law_joined_right) (by decide +kernel)) (fun _ _ _ _ _ => (kk (K := K) (F := fun K => gTup K 3 _) (P := PG _ _) (pg_tup rfl (pgs_cons (pg_name (i := 4) sc__law_joined_right.nd rfl (Or.inl rfl)) (pgs_cons (pg_name (i := 5) sc__law_joined_right.nd rfl (Or.inl rfl)) (pgs_cons (pg_name (i := 6) sc__law_joined_right.nd rfl (Or.inl rfl)) pgs_nil)))))) (fun _ _ _ _ _ => pts_nil) (fun _ _ _ _ _ => (pv 5))))) pe_int (nomark _)) (pe_one (pe_cmpR op_lt (pe_callB (kk (K := K) (F := rMax) (P := CallR _ _) (cr_max rfl)) (by rfl) B.max_ (by decide +kernel) (pa_cons (pe_lc (own := [("_law_row", 7)]) (g := gName 7) (tt := tYes) rfl sc__law_joined_right.nd (kk (K := K) (F := fun K => iTup K _) (P := PI _ _ _) (pi_tup (pv 3))) (blkOk_by (own := [("_law_row", 7)]) (N := ["_law_k", "_law_board", "_law_asks", "_law_told", "_law_hand", "_law_box", "_law_deed_here", "_law_row"]) (sc := defScope s__law_joined_right) (by decide +kernel)) (fun _ _ _ _ _ => (pg_name (i := 7) sc__law_joined_right.nd rfl (Or.inl rfl))) (fun _ _ _ _ _ => pts_nil) (fun _ _ _ _ _ => (pe_callB (kk (K := K) (F := rMaxT) (P := CallR _ _) (cr_maxT rfl)) (by rfl) B.max_ (by decide +kernel) (pa_cons (pv 7) pa_nil)))) pa_nil)) pe_int (nomark _)))))))), ?_⟩)
  · obtain ⟨k, b, A, bs, as, rfl, _⟩ := h; rfl
  · obtain ⟨k, b, A, bs, as, rfl, hk, hr, h16, q⟩ := h
    have l16 := two_k16 hk
    try walk_at "go"
    intro T H1 S1 hT
    have hr1 := hr.same S1
    have ak1 := hr1.ak
    have hd1 := hr1.hd
    try walk_at "go"
    intro D rs nn H2 S2 dst G2
    have hin := hr.in_
    have h0 : ∀ x ∈ as, 0 ≤ x.hand := fun x hx => (hr.ak.2.2 x hx).2.2.1
    have nd := hr.nd
    have G2' : GvAt H2 D rs (k + 1) (fun lv => (cnts (2 ^ k) (jnL k as lv)).map V.int) := G2.congr fun lv hl => congrArg (List.map V.int) (jnL_cnts hk hin h0 nd dst (by omega))
    have hT2 := hT.same S2
    have hcl : ∀ lv, lv < k + 1 → (cnts (2 ^ k) (jnL k as lv)).length ≤ 16 := fun lv _ => by rw [cnts_len]; exact l16
    have k5 : k + 1 ≤ 5 := by omega
    try walk_at "go"
    intro H3 S3
    have S03 := S1.trans (S2.trans S3)
    have ak3 := (hr.same S03).ak
    have at3 := ak3.1
    try walk_at "go"
    intro E hE
    obtain ⟨bl, ebl⟩ : ∃ bl : List Int, bl = as.map fun x => ((x.box : Nat) : Int) := ⟨_, rfl⟩
    have lbl : bl.length = as.length := by rw [ebl, List.length_map]
    refine lc_tup (K := K) (a := A) (xs := as.map fun x => V.ref x.a) (fun i H' => Kept (Same H3 H' ∧ H' E = some (.lst ((bl.take i).map V.int)))) ⟨same_new hE _, upd_same⟩ (fun i H' _ h => SqT.of (h.ex.1 _ _ at3)) ?_ ?_
    · rintro i v H4 hv ⟨S4, hE4⟩
      rw [List.getElem?_map] at hv
      obtain ⟨x, hx, rfl⟩ := Option.map_eq_some_iff.mp hv
      have hi : i < as.length := (List.getElem?_eq_some_iff.mp hx).1
      have xa := ((ak3.2.2 x (List.mem_of_getElem? hx)).same S4).1
      have e9 : bl[i]? = some ((x.box : Nat) : Int) := by rw [ebl, List.getElem?_map, hx] <;> rfl
      have ul : ((bl.take i).map V.int).length ≤ 100 := by rw [List.length_map, List.length_take]; omega
      try walk_at "go"
      exact ⟨⟨but_same hE S4 But.upd, by rw [upd_same, take_snoc e9, List.map_append] <;> rfl⟩⟩
    rintro H4 ⟨S4, hE4⟩
    rw [List.length_map, show bl.take as.length = bl from List.take_of_length_le (by omega)] at hE4
    have lD : bl.length < 64 := by omega
    try walk_at "go"
    intro o ond omem
    try walk_at "go"
    refine ite2 (fun c => ?_) (fun c => ?_)
    · exact q H4 (S03.trans S4)
    have o1 : o.length ≤ 1 := by
      refine Decidable.byContradiction fun z => c ?_
      exact decide_eq_true (show (1 : Int) < ((o.length : Nat) : Int) by omega)
    have hT4 := hT2.same (S3.trans S4)
    obtain ⟨ls, t1, t2, t3⟩ := hT4
    have ll : ls.length = k + 1 := by have := congrArg List.length t3; rw [List.length_map, List.length_map, List.length_range] at this; exact this
    have lsf : ∀ (i : Nat) (x : Addr × List Int), ls[i]? = some x → i < k + 1 ∧ x.2 = cnts (2 ^ k) (jnL k as i) := fun i x hx => by
      have hi : i < k + 1 := by rw [← ll]; exact (List.getElem?_eq_some_iff.mp hx).1
      have := congrArg (fun z => z[i]?) t3
      simp only [List.getElem?_map, List.getElem?_range hi, hx] at this
      exact ⟨hi, Option.some.inj this⟩
    have few : ∀ lv, lv ≤ k → ∀ m ∈ cnts (2 ^ k) (jnL k as lv), m ≤ 1 := fun lv hl m hm => by
      unfold cnts at hm
      obtain ⟨l, _, rfl⟩ := List.mem_map.mp hm
      obtain ⟨out, d1, d2, d3⟩ := jn_count (s := fun _ _ => 0) hk hin h0 nd hl l
      have : out.length ≤ o.length := nd_len d1 fun y hy => by
        obtain ⟨x, hx, rfl⟩ := List.mem_map.mp ((d2 y).mp hy)
        rw [omem, ebl]
        exact List.mem_map.mpr ⟨x, (List.mem_filter.mp hx).1, rfl⟩
      rw [d3] at this
      have e : (jnL k as lv).count (l : Int) = ((lvl k (fun _ _ => 0) as lv).map (lnC k lv)).count (l : Int) := rfl
      omega
    try walk_at "go"
    intro E2 hE2
    refine lc_tup (K := K) (a := T) (xs := ls.map fun x => V.ref x.1) (fun i H' => Kept (∃ ms : List Int, Same H4 H' ∧ H' E2 = some (.lst (ms.map V.int)) ∧ ms.length = i ∧ ∀ m ∈ ms, m ≤ 1)) ⟨[], same_new hE2 _, upd_same, rfl, fun m h => absurd h List.not_mem_nil⟩ (fun i H' _ h => by obtain ⟨_, S, _⟩ := h.ex; exact SqT.of (S _ _ t1)) ?_ ?_
    · rintro i v H5 hv ⟨ms, S5, hE5, lm, bm⟩
      rw [List.getElem?_map] at hv
      obtain ⟨x, hx, rfl⟩ := Option.map_eq_some_iff.mp hv
      obtain ⟨hi, ex⟩ := lsf i x hx
      have rw5 := S5 _ _ (t2 x (List.mem_of_getElem? hx))
      rw [ex] at rw5
      have cpos : 0 < (cnts (2 ^ k) (jnL k as i)).length := by rw [cnts_len]; exact Nat.two_pow_pos k
      have ul : (ms.map V.int).length ≤ 100 := by rw [List.length_map]; omega
      try walk_at "go"
      intro m hm _
      try walk_at "go"
      refine ⟨⟨ms ++ [m], but_same hE2 S5 But.upd, by rw [upd_same, List.map_append] <;> rfl, by rw [List.length_append, lm] <;> rfl, fun y hy => ?_⟩⟩
      rcases List.mem_append.mp hy with w | w
      · exact bm y w
      · rw [List.mem_singleton.mp w]
        exact few i (by omega) m hm
    rintro H5 ⟨ms, S5, hE5, lm, bm⟩
    rw [List.length_map, ll] at lm
    have mpos : 0 < ms.length := by omega
    try walk_at "go"
    intro m hm _
    try walk_at "go"
    have e9 : (fun i j : Int => V.bl (decide (i < j))) m 2 = V.bl true := congrArg V.bl (decide_eq_true (show m < 2 by have := bm m hm; omega))
    rw [e9]
    exact q H5 (S03.trans (S4.trans S5))
/-! SPLIT -/
omit B in
theorem low_top : ∀ k, k < 5 → ∀ h, h < 2 ^ k → ∀ g, g < 2 ^ k → ∀ lv, lv < k + 1 → (low k h g lv).toNat / 2 ^ (k - lv) = g / 2 ^ (k - lv) := by decide +kernel
/-- the boxes whose sides have the line's first figures -/
def fewP (k lv l : Nat) (b : Int) : Bool := decide (b % ((2 ^ k : Nat) : Int) / ((2 ^ (k - lv) : Nat) : Int) = (l : Int) / ((2 ^ (k - lv) : Nat) : Int))
omit B in
theorem few_le {k lv l n : Nat} {as : List Ak} {out : List Int} (hk : k ≤ 4) (hl : lv ≤ k) (hh : ∀ x ∈ as, x.hand.toNat < 2 ^ k) (ho : ∀ y, y ∈ out ↔ y ∈ as.map fun x => ((x.box : Nat) : Int)) (d : Dst (bxs k lv as l) n) : n ≤ (out.filter (fewP k lv l)).length := by
  obtain ⟨o1, n1, h1, rfl⟩ := d
  refine nd_len n1 fun y hy => ?_
  obtain ⟨x, hx, rfl⟩ := List.mem_map.mp ((h1 y).mp hy)
  obtain ⟨x1, x2⟩ := List.mem_filter.mp hx
  have x3 : low k x.hand.toNat (x.box % 2 ^ k) lv = (l : Int) := by simpa using x2
  have t := low_top k (by omega) _ (hh x x1) _ (Nat.mod_lt x.box (Nat.two_pow_pos k)) lv (by omega)
  rw [x3, Int.toNat_natCast] at t
  refine List.mem_filter.mpr ⟨(ho _).mpr (List.mem_map.mpr ⟨x, x1, rfl⟩), decide_eq_true ?_⟩
  have e1 : ((x.box : Nat) : Int) % ((2 ^ k : Nat) : Int) / ((2 ^ (k - lv) : Nat) : Int) = ((x.box % 2 ^ k / 2 ^ (k - lv) : Nat) : Int) := by push_cast; rfl
  have e2 : (l : Int) / ((2 ^ (k - lv) : Nat) : Int) = ((l / 2 ^ (k - lv) : Nat) : Int) := by push_cast; rfl
  rw [e1, e2, ← t]
def endP (k e : Nat) (b : Int) : Bool := decide (b % ((2 ^ k : Nat) : Int) = (e : Int))
omit B in
theorem end_eq {k e n : Nat} {as : List Ak} {out : List Int} (hk : k ≤ 4) (hh : ∀ x ∈ as, x.hand.toNat < 2 ^ k) (nd : out.Nodup) (ho : ∀ y, y ∈ out ↔ y ∈ as.map fun x => ((x.box : Nat) : Int)) (d : Dst (bxs k k as e) n) : n = (out.filter (endP k e)).length := by
  refine d.uniq ⟨out.filter (endP k e), nd.filter _, fun y => ?_, rfl⟩
  unfold bxs
  constructor
  · intro z
    obtain ⟨z1, z2⟩ := List.mem_filter.mp z
    obtain ⟨x, hx, rfl⟩ := List.mem_map.mp ((ho y).mp z1)
    have z3 : ((x.box : Nat) : Int) % ((2 ^ k : Nat) : Int) = (e : Int) := of_decide_eq_true z2
    refine List.mem_map.mpr ⟨x, List.mem_filter.mpr ⟨hx, decide_eq_true ?_⟩, rfl⟩
    rw [low_all k (by omega) _ (hh x hx) _ (Nat.mod_lt _ (Nat.two_pow_pos k)), ← z3]
    push_cast; rfl
  · intro z
    obtain ⟨x, hx, rfl⟩ := List.mem_map.mp z
    obtain ⟨x1, x2⟩ := List.mem_filter.mp hx
    have x3 : low k x.hand.toNat (x.box % 2 ^ k) k = (e : Int) := by simpa using x2
    rw [low_all k (by omega) _ (hh x x1) _ (Nat.mod_lt _ (Nat.two_pow_pos k))] at x3
    refine List.mem_filter.mpr ⟨(ho _).mpr (List.mem_map.mpr ⟨x, x1, rfl⟩), decide_eq_true ?_⟩
    rw [← x3]
    push_cast; rfl
/-- data of loads -/
def ldD (f : Nat → List Int) (n : Nat) : PyData := .tuple ((List.range n).map fun lv => .tuple ((f lv).map PyData.int))
omit B in
theorem LdAt.dp {K : PySem.W.Frag} {H : Hp} {T : Addr} {f : Nat → List Int} {n : Nat} (h : LdAt H T f n) : Dp K H (.ref T) (ldD f n) := by
  obtain ⟨ls, h1, h2, h3⟩ := h
  have e : ldD f n = .tuple (ls.map fun x => .tuple (x.2.map PyData.int)) := by
    unfold ldD
    have : (List.range n).map (fun lv => PyData.tuple ((f lv).map PyData.int)) = ((List.range n).map f).map fun r => PyData.tuple (r.map PyData.int) := by rw [List.map_map] <;> rfl
    rw [this, ← h3, List.map_map] <;> rfl
  rw [e]
  exact .tup (SqT.of h1) (dps fun x hx => tupI_dp (SqT.of (h2 x hx)))
omit B in
theorem LdAt.at_ {H : Hp} {T : Addr} {f : Nat → List Int} {n lv : Nat} (h : LdAt H T f n) (hl : lv < n) : ∃ (rs : List Addr) (R : Addr), H T = some (.tup (rs.map V.ref)) ∧ atI (rs.map V.ref) (lv : Int) = some (.ref R) ∧ H R = some (.tup ((f lv).map V.int)) := by
  obtain ⟨ls, h1, h2, h3⟩ := h
  have ll : ls.length = n := by have := congrArg List.length h3; rw [List.length_map, List.length_map, List.length_range] at this; exact this
  have hlt : lv < ls.length := by omega
  have e : ls[lv].2 = f lv := by
    have := congrArg (fun z => z[lv]?) h3
    simp only [List.getElem?_map, List.getElem?_range hl, List.getElem?_eq_getElem hlt] at this
    exact Option.some.inj this
  refine ⟨ls.map fun x => x.1, ls[lv].1, by rw [List.map_map]; exact h1, atI_nat (by rw [List.getElem?_map, List.getElem?_map, List.getElem?_eq_getElem hlt] <;> rfl), by rw [← e]; exact h2 _ (List.getElem_mem hlt)⟩
/-- data of a line or none -/
def lnD : Option (Nat × Int) → PyData
  | none => .none
  | some (lv, x) => .tuple [.int (lv : Nat), .int x]
def LnV (H : Hp) (r : Option (Nat × Int)) (v : V) : Prop := match r with | none => v = .non | some (lv, x) => ∃ U, v = .ref U ∧ H U = some (.tup [.int (lv : Nat), .int x])
omit B in
theorem LnV.same {H H' : Hp} {r : Option (Nat × Int)} {v : V} (a : LnV H r v) (e : Same H H') : LnV H' r v := by
  cases r with
  | none => exact a
  | some p => obtain ⟨U, h1, h2⟩ := a; exact ⟨U, h1, e _ _ h2⟩
omit B in
theorem LnV.dp {K : PySem.W.Frag} {H : Hp} {r : Option (Nat × Int)} {v : V} (a : LnV H r v) : Dp K H v (lnD r) := by
  cases r with
  | none => rw [show v = .non from a]; exact .non
  | some p => obtain ⟨U, rfl, h2⟩ := a; exact .tup (SqT.of h2) (.cons (.int _) (.cons (.int _) .nil))
omit B in
theorem lnD_ly {r : Option (Nat × Int)} : Ly 1 (lnD r) := by
  cases r with
  | none => exact .non
  | some p => exact Ly.tup2 .int .int
omit B in
theorem ldD_ly {f : Nat → List Int} {n : Nat} : Ly 2 (ldD f n) := .tup fun d hd => by
  obtain ⟨lv, _, rfl⟩ := List.mem_map.mp hd
  exact .tupI
omit B in
theorem ldD_congr {f g : Nat → List Int} {n : Nat} (h : ∀ lv, lv < n → f lv = g lv) : ldD f n = ldD g n := by
  unfold ldD
  exact congrArg PyData.tuple (List.map_congr_left fun lv hm => by rw [h lv (List.mem_range.mp hm)])
def akP (k : Nat) (x : Ak) : Nat × Nat := (x.hand.toNat, x.box % 2 ^ k)
omit B in
theorem plL_lns {k lv : Nat} {as : List Ak} (hk : k ≤ 4) (hh : ∀ x ∈ as, x.hand.toNat < 2 ^ k) (hl : lv ≤ k) : plL k as lv = lns k (as.map (akP k)) lv := by
  unfold plL lns
  rw [List.map_map]
  exact List.map_congr_left fun x hx => low_lns (p := akP k x) hk ⟨hh x hx, Nat.mod_lt _ (Nat.two_pow_pos k)⟩ (by omega)
omit B in
theorem Fst.congr {f g : Nat → List Int} {k : Nat} {r : Option (Nat × Int)} (h : ∀ lv, lv ≤ k → f lv = g lv) (a : Fst f k r) : Fst g k r := by
  cases r with
  | none => exact fun lv hl x => by rw [← h lv hl]; exact a lv hl x
  | some p =>
    obtain ⟨lv, x⟩ := p
    obtain ⟨a1, a2, a3, a4⟩ := a
    refine ⟨a1, ?_, ?_, fun lv' h' y => ?_⟩
    · rw [← h lv a1]; exact a2
    · rw [← h lv a1]; exact a3
    · rw [← h lv' (by omega)]; exact a4 lv' h' y
omit B in
/-- where no line is shared joined loads are the plain ones -/
theorem jn_pl {k nb : Nat} {as : List Ak} (hk : k ≤ 4) (hin : ∀ x ∈ as, x.hand.toNat < 2 ^ k ∧ x.box < nb) (h0 : ∀ x ∈ as, 0 ≤ x.hand) (nd : (as.map fun x => x.hand).Nodup) (F : Fst (plL k as) k none) {lv : Nat} (hl : lv ≤ k) :
    cnts (2 ^ k) (jnL k as lv) = cnts (2 ^ k) (plL k as lv) := by
  unfold cnts
  refine List.map_congr_left fun l hm => ?_
  have e1 := pl_count (k := k) (lv := lv) (as := as) l
  have d := jn_count (s := fun _ _ => 0) hk hin h0 nd hl l
  have f1 : ¬ 1 < (plL k as lv).count (l : Int) := F lv hl l
  have dd : Dst (bxs k lv as l) (bxs k lv as l).length := by
    refine ⟨bxs k lv as l, ?_, fun y => Iff.rfl, rfl⟩
    rw [e1] at f1
    generalize bxs k lv as l = z at f1
    match z, f1 with
    | [], _ => exact List.nodup_nil
    | [a], _ => simp
    | a :: b :: c, h => exact absurd (show 1 < (a :: b :: c).length by simp) h
  have e2 := d.uniq dd
  rw [e1, ← e2]
  rfl
def spLR99 (K : PySem.W.Frag) : Sp := fun vs H Q _ => ∃ (k : Nat) (b A : Addr) (bs : List Int) (as : List Ak), vs = [.int k, .ref b, .ref A] ∧ k ≤ 4 ∧ RnAt H k b A bs as ∧ as.length ≤ 16 ∧ ∀ H', Same H H' → Q (.bl true) H'
theorem k__law_loads_right (D : Df K mg "_law_loads_right" s__law_loads_right ["_law_k", "_law_board", "_law_asks"]) (D_joined_loads : Dn P w K mg base 9 "joined_loads" ["k", "board", "asks"] (spJoinedL K)) (D_plain_loads : Dn P w K mg base 8 "plain_loads" ["k", "board", "asks"] (spPlainL K)) (D__law_are_rows : Dn P w K mg base 1 "_law_are_rows" ["_law_told", "_law_due_here"] (spRows99 K)) (D__law_due : Dn P w K mg base 5 "_law_due" ["_law_k", "_law_asks"] (spDue99 K)) (D__law_first_full : Dn P w K mg base 1 "_law_first_full" ["_law_loads"] (spFull99 K)) (D_first_shared : Dn P w K mg base 5 "first_shared" ["k", "pairs"] (spShared K)) (D__law_joined_right : Dn P w K mg base 10 "_law_joined_right" ["_law_k", "_law_board", "_law_asks"] (spJR99 K)) : Dn P w K mg base 11 "_law_loads_right" ["_law_k", "_law_board", "_law_asks"] (spLR99 K) := by
  refine D.ok fun f fd F => okG0 F sc__law_loads_right (fun vs H Q E h => ?_) (fun cdv A outer s H vs Q E hr h => ⟨_, (pss_cons (ps_set (i := 3) sc__law_loads_right.nd rfl (Or.inl rfl) (pe_cD D_plain_loads (hr.less (by decide)) rfl (pa_cons (pv 0) (pa_cons (pv 1) (pa_cons (pv 2) pa_nil)))))
    (pss_cons (ps_if (pt_not (pt_val (pe_cD D__law_are_rows (hr.less (by decide)) rfl (pa_cons (pv 3) (pa_cons (pe_cD D__law_due (hr.less (by decide)) rfl (pa_cons (pv 0) (pa_cons (pv 2) pa_nil))) pa_nil)))))
      (pss_one (ps_ret pe_bl))
      pss_nil)
    (pss_cons (ps_set (i := 4) sc__law_loads_right.nd rfl (Or.inl rfl) (pe_callTy (tupOfK (K := K)) (by rfl) B.tuple_ (by decide +kernel) (pa_cons (pe_lc (own := [("_law_hand", 6), ("_law_box", 7), ("_law_deed_here", 8)]) (tt := tYes) rfl sc__law_loads_right.nd (kk (K := K) (F := fun K => iTup K _) (P := PI _ _ _) (pi_tup (pv 2))) (blkOk_by (own := [("_law_hand", 6), ("_law_box", 7), ("_law_deed_here", 8)]) (N := ["_law_k", "_law_board", "_law_asks", "_law_told", "_law_pairs", "_law_line", "_law_hand", "_law_box", "_law_deed_here"]) (sc := defScope s__law_loads_right) (by decide +kernel)) (fun _ _ _ _ _ => (kk (K := K) (F := fun K => gTup K 3 _) (P := PG _ _) (pg_tup rfl (pgs_cons (pg_name (i := 6) sc__law_loads_right.nd rfl (Or.inl rfl)) (pgs_cons (pg_name (i := 7) sc__law_loads_right.nd rfl (Or.inl rfl)) (pgs_cons (pg_name (i := 8) sc__law_loads_right.nd rfl (Or.inl rfl)) pgs_nil)))))) (fun _ _ _ _ _ => pts_nil) (fun _ _ _ _ _ => (pe_tup (pa_cons (pv 6) (pa_cons (pe_op op_mod (pv 7) (pe_op op_shlW pe_int (pv 0))) pa_nil))))) pa_nil)))
    (pss_cons (ps_set (i := 5) sc__law_loads_right.nd rfl (Or.inl rfl) (pe_cD D__law_first_full (hr.less (by decide)) rfl (pa_cons (pv 3) pa_nil)))
    (pss_cons (ps_if (pt_cmpR (kk (K := K) (F := rNeD) (P := OpR _ _) (op_neD hr.units)) (pe_cD D_first_shared (hr.less (by decide)) rfl (pa_cons (pv 0) (pa_cons (pv 4) pa_nil))) (pv 5) (nomark _))
      (pss_one (ps_ret pe_bl))
      pss_nil)
    (pss_cons (ps_if (PW.pt (pw_and (pt_cmpR op_isN (pv 5) pe_non (nomark _)) (pw_and1 (pt_cmpR (kk (K := K) (F := rNeD) (P := OpR _ _) (op_neD hr.units)) (pe_cD D_joined_loads (hr.less (by decide)) rfl (pa_cons (pv 0) (pa_cons (pv 1) (pa_cons (pv 2) pa_nil)))) (pv 3) (nomark _)))))
      (pss_one (ps_ret pe_bl))
      pss_nil)
    (pss_one (ps_ret (pe_cD D__law_joined_right (hr.less (by decide)) rfl (pa_cons (pv 0) (pa_cons (pv 1) (pa_cons (pv 2) pa_nil)))))))))))), ?_⟩)
  · obtain ⟨k, b, A, bs, as, rfl, _⟩ := h; rfl
  · obtain ⟨k, b, A, bs, as, rfl, hk, hr, h16, q⟩ := h
    have l16 := two_k16 hk
    have sh : CShl 1 (k : Int) := shl_ok (by omega)
    have eL : (1 : Int) * 2 ^ ((k : Nat) : Int).toNat = ((2 ^ k : Nat) : Int) := shl_2k
    have ps : (0 : Int) < (1 : Int) * 2 ^ ((k : Nat) : Int).toNat := by rw [eL]; have := Nat.two_pow_pos k; omega
    have hin := hr.in_
    have h0 : ∀ x ∈ as, 0 ≤ x.hand := fun x hx => (hr.ak.2.2 x hx).2.2.1
    have nd := hr.nd
    try walk_at "go"
    intro T H1 S1 hT
    have hr1 := hr.same S1
    have ak1 := hr1.ak
    have hd1 := hr1.hd
    try walk_at "go"
    intro D rs H2 S2 G2
    have hT2 := hT.same S2
    have hcl : ∀ lv, lv < k + 1 → (cnts (2 ^ k) (plL k as lv)).length ≤ 16 := fun lv _ => by rw [cnts_len]; exact l16
    have k5 : k + 1 ≤ 5 := by omega
    try walk_at "go"
    intro H3 S3
    have S03 := S1.trans (S2.trans S3)
    have ak3 := (hr.same S03).ak
    have at3 := ak3.1
    try walk_at "go"
    intro E hE
    refine lc_tup (K := K) (a := A) (xs := as.map fun x => V.ref x.a) (fun i H' => Kept (∃ ts : List Addr, Same H3 H' ∧ H' E = some (.lst (ts.map V.ref)) ∧ PtsAt H' ts ((as.take i).map (akP k)))) ⟨[], same_new hE _, upd_same, rfl, fun j t p h => by simp at h⟩ (fun i H' _ h => by obtain ⟨_, S, _⟩ := h.ex; exact SqT.of (S _ _ at3)) ?_ ?_
    · rintro i v H4 hv ⟨ts, S4, hE4, pt4⟩
      rw [List.getElem?_map] at hv
      obtain ⟨x, hx, rfl⟩ := Option.map_eq_some_iff.mp hv
      have hi : i < as.length := (List.getElem?_eq_some_iff.mp hx).1
      obtain ⟨xa, xd, x0, x16, xb⟩ := (ak3.2.2 x (List.mem_of_getElem? hx)).same S4
      have eh : x.hand = ((x.hand.toNat : Nat) : Int) := (Int.toNat_of_nonneg x0).symm
      have xa : H4 x.a = some (.tup [.int ((x.hand.toNat : Nat) : Int), .int (x.box : Nat), .ref x.da]) := by rw [← eh]; exact xa
      have ul : (ts.map V.ref).length ≤ 100 := by rw [List.length_map, pt4.1, List.length_map, List.length_take]; omega
      have en : (fun i j : Int => V.int (i % j)) (x.box : Int) ((1 : Int) * 2 ^ ((k : Nat) : Int).toNat) = V.int ((x.box % 2 ^ k : Nat) : Int) := by
        show V.int ((x.box : Int) % ((1 : Int) * 2 ^ ((k : Nat) : Int).toNat)) = _
        rw [eL]
        push_cast
        rfl
      try walk_at "go"
      intro R hR
      rw [en]
      generalize eH5 : upd _ R (HO.tup [.int (x.hand.toNat : Nat), .int ((x.box % 2 ^ k : Nat) : Int)]) = H5
      have SH5 := newS eH5 hR
      have oR := newO eH5
      have hE5 := SH5 _ _ hE4
      try walk_at "go"
      refine ⟨⟨ts ++ [R], but_same hE (S4.trans SH5) But.upd, by rw [upd_same, List.map_append] <;> rfl, ?_⟩⟩
      rw [take_snoc hx, List.map_append]
      refine ⟨by rw [List.length_append, List.length_append, pt4.1] <;> rfl, fun j t p ht hp => ?_⟩
      by_cases c : j < ts.length
      · rw [List.getElem?_append_left c] at ht
        rw [List.getElem?_append_left (by rw [← pt4.1]; exact c)] at hp
        have g1 := SH5 _ _ (pt4.2 j t p ht hp)
        rw [upd_ne (ne_of g1 hE5 (by intro w; cases w))]
        exact g1
      · rw [List.getElem?_append_right (by omega)] at ht
        rw [List.getElem?_append_right (by rw [← pt4.1]; omega), ← pt4.1] at hp
        have h1 := (List.getElem?_eq_some_iff.mp ht).1
        have h2 : [R].length = 1 := rfl
        obtain rfl : j = ts.length := by omega
        rw [Nat.sub_self] at ht hp
        cases (Option.some.inj ht)
        cases (Option.some.inj hp)
        rw [upd_ne (ne_of oR hE5 (by intro w; cases w))]
        exact oR
    rintro H4 ⟨ts, S4, hE4, pt4⟩
    rw [List.length_map, List.take_length] at pt4
    try walk_at "go"
    intro P hP
    generalize eH5 : upd _ P _ = H5
    have SH5 := newS eH5 hP
    have oP := newO eH5
    have S35 := S4.trans SH5
    have hP : PrT H5 k P ts (as.map (akP k)) := ⟨oP, pt4.same SH5, fun p hp => by obtain ⟨x, hx, rfl⟩ := List.mem_map.mp hp; exact ⟨(hin x hx).1, Nat.mod_lt _ (Nat.two_pow_pos k)⟩, by rw [List.length_map]; omega⟩
    have hT5 := hT2.same (S3.trans S35)
    have pl40 : ∀ lv, lv ≤ k → (plL k as lv).length ≤ 40 ∧ ∀ x ∈ plL k as lv, 0 ≤ x ∧ x < ((2 ^ k : Nat) : Int) := fun lv hl => by
      refine ⟨by unfold plL; rw [List.length_map]; omega, fun y hy => ?_⟩
      obtain ⟨x, hx, rfl⟩ := List.mem_map.mp hy
      exact low_rng hk (hin x hx).1 (Nat.mod_lt _ (Nat.two_pow_pos k)) hl
    try walk_at "go"
    intro r v H6 F6 S6 hv
    have hv6 : LnV H6 r v := hv
    have hP6 := hP.same S6
    try walk_at "go"
    intro r2 v2 H7 F7 S7 hv7
    have hv7' : LnV H7 r2 v2 := hv7
    obtain rfl : r2 = r := (F7.congr fun lv hl => (plL_lns (as := as) hk (fun x hx => (hin x hx).1) hl).symm).uniq F6
    have dd1 := hv7'.dp (K := K)
    have dd2 := (hv6.same S7).dp (K := K)
    have shl := lnD_ly (r := r2) |>.sh
    refine ⟨_, rfl, _, _, dd1, dd2, shl, shl, _, rfl, ?_⟩
    rw [lnD_ly.refl]
    refine ifF rfl ?_
    have S07 := S03.trans (S35.trans (S6.trans S7))
    have hr7 := hr.same S07
    have hT7 := hT5.same (S6.trans S7)
    try walk_at "go"
    cases r2 with
    | some y =>
      obtain ⟨U, rfl, _⟩ := hv6
      rw [decide_eq_false (show ¬ V.ref U = V.non by intro z; cases z)]
      refine ifF rfl ?_
      try walk_at "go"
      intro H8 S8
      exact q H8 (S07.trans S8)
    | none =>
      obtain rfl : v = .non := hv6
      rw [decide_eq_true rfl]
      refine ifT rfl ?_
      try walk_at "go"
      intro T2 H8 S8 hJ
      have hT8 := hT7.same S8
      have eJ : ldD (fun lv => cnts (2 ^ k) (jnL k as lv)) (k + 1) = ldD (fun lv => cnts (2 ^ k) (plL k as lv)) (k + 1) := ldD_congr fun lv hl => jn_pl hk hin h0 nd F6 (by omega)
      have d1 := hJ.dp (K := K)
      have d2 := hT8.dp (K := K)
      rw [eJ] at d1
      have sh2 := (ldD_ly (f := fun lv => cnts (2 ^ k) (plL k as lv)) (n := k + 1)).sh
      have hr8 := hr7.same S8
      refine ⟨_, rfl, _, _, d1, d2, sh2, sh2, _, rfl, ?_⟩
      rw [ldD_ly.refl]
      refine ifF rfl ?_
      try walk_at "go"
      intro H9 S9
      exact q H9 (S07.trans (S8.trans S9))
/-! SPLIT -/
theorem perm_back {α β : Type} {f : α → β} {us : List β} {ls : List α} (h : us.Perm (ls.map f)) : ∃ ls' : List α, ls'.Perm ls ∧ us = ls'.map f := by
  obtain ⟨l, h1, h2⟩ : ∃ l : List α, l.Perm ls ∧ l.map f = us := by
    generalize e : ls.map f = ms at h
    induction h generalizing ls with
    | nil =>
      cases ls with
      | nil => exact ⟨[], .refl _, rfl⟩
      | cons => cases e
    | cons x p ih =>
      cases ls with
      | nil => cases e
      | cons y r =>
        injection e with e1 e2
        obtain ⟨l, h1, h2⟩ := ih e2
        exact ⟨y :: l, h1.cons y, by rw [List.map_cons, e1, h2]⟩
    | swap x y p =>
      match ls, e with
      | a :: b :: r, e =>
        injection e with e1 e2
        injection e2 with e2 e3
        exact ⟨b :: a :: r, .swap _ _ _, by rw [List.map_cons, List.map_cons, e1, e2, e3]⟩
    | trans p q ih1 ih2 =>
      obtain ⟨l, h1, h2⟩ := ih2 e
      obtain ⟨l2, h3, h4⟩ := ih1 h2
      exact ⟨l2, h3.trans h1, h4⟩
  exact ⟨l, h1, h2.symm⟩
/-- asks by hand as they are made -/
def AkB (H : Hp) (as : List Ak) (bx : List Nat) : Prop := ∀ (j : Nat) x, as[j]? = some x → x.at_ H 16 ∧ x.hand = (j : Int) ∧ bx[j]? = some x.box
omit B in
theorem AkB.keep {H H' : Hp} {as : List Ak} {bx : List Nat} (a : AkB H as bx) (k : ∀ t xs, H t = some (.tup xs) → H' t = some (.tup xs)) : AkB H' as bx := fun j x e => by
  obtain ⟨⟨h1, h2, h3⟩, g⟩ := a j x e
  exact ⟨⟨k _ _ h1, ⟨k _ _ h2.1, h2.2⟩, h3⟩, g⟩
omit B in
theorem rnKeep {H H' : Hp} {p b A : Addr} {k cap : Nat} {bs : List Int} {as : List Ak} (bb : But p H H') (pp : PurseAt H p cap) (r : RnAt H k b A bs as) : RnAt H' k b A bs as := by
  have kp := but_keep bb pp
  exact ⟨⟨kp _ _ r.bd.1, r.bd.2⟩, ⟨kp _ _ r.ak.1, r.ak.2.1, fun x hx => by obtain ⟨g1, g2, g3⟩ := r.ak.2.2 x hx; exact ⟨kp _ _ g1, ⟨kp _ _ g2.1, g2.2⟩, g3⟩⟩, r.nd, r.hd⟩
def spLaw (K : PySem.W.Frag) : Sp := fun vs H Q _ => ∃ (a : Addr) (ns : List Int), vs = [.ref a] ∧ SqL K H a (ns.map V.int) ∧ ns.length ≤ 63 ∧ ∀ H', Q (.bl true) H'
theorem k_law {f : Addr} {fd : FuncData} (F : Fun K "law" "law" s_law f fd) (D__law_purse : Dn P w K mg base 1 "_law_purse" ["_law_script", "_law_k"] (spPurse K)) (D__law_take : Dn P w K mg base 2 "_law_take" ["_law_purse_here", "_law_many"] (spTakeP K)) (D__law_boxes : Dn P w K mg base 9 "_law_boxes" ["_law_purse_here", "_law_k"] (spBoxes K)) (D__law_deed : Dn P w K mg base 3 "_law_deed" ["_law_purse_here"] (spDeedS K)) (D__law_mixed : Dn P w K mg base 3 "_law_mixed" ["_law_purse_here", "_law_some"] (spMixR K)) (D__law_first_full : Dn P w K mg base 1 "_law_first_full" ["_law_loads"] (spFull99 K)) (D_plain_loads : Dn P w K mg base 8 "plain_loads" ["k", "board", "asks"] (spPlainL K)) (D_settings_for : Dn P w K mg base 6 "settings_for" ["k", "sides"] (spSetFor K)) (D__law_loads_right : Dn P w K mg base 11 "_law_loads_right" ["_law_k", "_law_board", "_law_asks"] (spLR99 K)) : FnG P w K mg base CX0 12 f fd ["_law_script"] (spLaw K) := by
  refine okG0 F sc_law (fun vs H Q E h => ?_) (fun cdv A outer s H vs Q E hr h => ⟨_, (pss_cons (ps_for PassesOwn.never rfl (pi_range1 (by rfl) B.range_ (pa_cons (pe_callB (call_max2 rfl) (by rfl) B.max_ (by decide +kernel) (pa_cons pe_int (pa_cons (pe_callB (call_min2 rfl) (by rfl) B.min_ (by decide +kernel) (pa_cons pe_int (pa_cons (pe_callB (lenK (K := K)) (by rfl) B.len_ (by decide +kernel) (pa_cons (pv 0) pa_nil)) pa_nil))) pa_nil))) pa_nil)) (pg_name (i := 1) sc_law.nd rfl (Or.inl rfl))
      (pss_cons (ps_set (i := 2) sc_law.nd rfl (Or.inr rfl) (pe_cD D__law_purse (hr.less (by decide)) rfl (pa_cons (pv 0) (pa_cons (pv 1) pa_nil))))
      (pss_cons (ps_set (i := 3) sc_law.nd rfl (Or.inr rfl) (pe_cD D__law_take (hr.less (by decide)) rfl (pa_cons (pv 2) (pa_cons pe_int pa_nil))))
      (pss_cons (ps_set (i := 4) sc_law.nd rfl (Or.inl rfl) (pe_callTy (tupOfK (K := K)) (by rfl) B.tuple_ (by decide +kernel) (pa_cons (pe_lc (own := [("_law_box", 10)]) (g := gName 10) (tt := tYes) rfl sc_law.nd (pi_range1 (by rfl) B.range_ (pa_cons pe_int pa_nil)) (blkOk_by (own := [("_law_box", 10)]) (N := ["_law_script", "_law_cell", "_law_purse_here", "_law_k", "_law_board", "_law_boxes_here", "_law_asks", "_law_line", "_law_told", "_law_some", "_law_box", "_law_hand"]) (sc := defScope s_law) (by decide +kernel)) (fun _ _ _ _ _ => (pg_name (i := 10) sc_law.nd rfl (Or.inl rfl))) (fun _ _ _ _ _ => pts_nil) (fun _ _ _ _ _ => (pe_op op_sub (pe_cD D__law_take (hr.less (by decide)) rfl (pa_cons (pv 2) (pa_cons pe_int pa_nil))) pe_int))) pa_nil)))
      (pss_cons (ps_set (i := 5) sc_law.nd rfl (Or.inl rfl) (pe_cD D__law_boxes (hr.less (by decide)) rfl (pa_cons (pv 2) (pa_cons (pv 3) pa_nil))))
      (pss_cons (ps_setLc (i := 6) (own := [("_law_hand", 11), ("_law_box", 10)]) (tt := tYes) rfl sc_law.nd rfl rfl (sw_true rfl rfl rfl (by decide +kernel)) (kk (K := K) (F := fun K => iEnum K _) (P := PI _ _ _) (pi_enum (by rfl) B.enumerate_ (pa_cons (pv 5) pa_nil))) (blkOk_by (own := [("_law_hand", 11), ("_law_box", 10)]) (N := ["_law_script", "_law_cell", "_law_purse_here", "_law_k", "_law_board", "_law_boxes_here", "_law_asks", "_law_line", "_law_told", "_law_some", "_law_box", "_law_hand"]) (sc := defScope s_law) (by decide +kernel)) (fun _ _ _ _ _ => (kk (K := K) (F := fun K => gTup K 2 _) (P := PG _ _) (pg_tup rfl (pgs_cons (pg_name (i := 11) sc_law.nd rfl (Or.inl rfl)) (pgs_cons (pg_name (i := 10) sc_law.nd rfl (Or.inl rfl)) pgs_nil))))) (fun _ _ _ _ _ => pts_nil) (fun _ _ _ _ _ => (pe_tup (pa_cons (pv 11) (pa_cons (pv 10) (pa_cons (pe_cD D__law_deed (hr.less (by decide)) rfl (pa_cons (pv 2) pa_nil)) pa_nil))))))
      (pss_cons (ps_set (i := 6) sc_law.nd rfl (Or.inl rfl) (pe_callTy (tupOfK (K := K)) (by rfl) B.tuple_ (by decide +kernel) (pa_cons (pe_cD D__law_mixed (hr.less (by decide)) rfl (pa_cons (pv 2) (pa_cons (pv 6) pa_nil))) pa_nil)))
      (pss_cons (ps_set (i := 7) sc_law.nd rfl (Or.inl rfl) (pe_cD D__law_first_full (hr.less (by decide)) rfl (pa_cons (pe_cD D_plain_loads (hr.less (by decide)) rfl (pa_cons (pv 3) (pa_cons (pv 4) (pa_cons (pv 6) pa_nil)))) pa_nil)))
      (pss_cons (ps_set (i := 8) sc_law.nd rfl (Or.inl rfl) (pe_cD D_settings_for (hr.less (by decide)) rfl (pa_cons (pv 3) (pa_cons (pe_callTy (tupOfK (K := K)) (by rfl) B.tuple_ (by decide +kernel) (pa_cons (pe_lc (own := [("_law_box", 10)]) (g := gName 10) (tt := tYes) rfl sc_law.nd (kk (K := K) (F := fun K => iList K _) (P := PI _ _ _) (pi_list (pv 5))) (blkOk_by (own := [("_law_box", 10)]) (N := ["_law_script", "_law_cell", "_law_purse_here", "_law_k", "_law_board", "_law_boxes_here", "_law_asks", "_law_line", "_law_told", "_law_some", "_law_box", "_law_hand"]) (sc := defScope s_law) (by decide +kernel)) (fun _ _ _ _ _ => (pg_name (i := 10) sc_law.nd rfl (Or.inl rfl))) (fun _ _ _ _ _ => pts_nil) (fun _ _ _ _ _ => (pe_op op_mod (pv 10) (pe_op op_shlW pe_int (pv 3))))) pa_nil)) pa_nil))))
      (pss_cons (ps_if (PW.pt (pw_or (pt_cmpR op_ne (pe_cmpR op_eq (pe_ix (kk (K := K) (F := rIxT) (P := IxR _) ix_tup) (pv 8) pe_int (fun _ _ => rfl)) pe_str (nomark _)) (pe_cmpR op_isN (pv 7) pe_non (nomark _)) (nomark _)) (pw_or1 (PW.pt (pw_and (pt_cmpR op_notN (pv 7) pe_non (nomark _)) (pw_and1 (pt_cmpR (kk (K := K) (F := rNeD) (P := OpR _ _) (op_neD hr.units)) (pv 8) (pe_tup (pa_cons pe_str (pa_cons (pv 7) pa_nil))) (nomark _))))))))
        (pss_one (ps_ret pe_bl))
        pss_nil)
      (pss_cons (ps_set (i := 9) sc_law.nd rfl (Or.inl rfl) (pe_slice sl_tupU (pv 6) po_none (po_some (pe_cD D__law_take (hr.less (by decide)) rfl (pa_cons (pv 2) (pa_cons (pe_op op_add (pe_callB (lenK (K := K)) (by rfl) B.len_ (by decide +kernel) (pa_cons (pv 6) pa_nil)) pe_int) pa_nil))))))
      (pss_one (ps_if (PW.pt (pw_or (pt_not (pt_val (pe_cD D__law_loads_right (hr.less (by decide)) rfl (pa_cons (pv 3) (pa_cons (pv 4) (pa_cons (pv 6) pa_nil)))))) (pw_or1 (pt_not (pt_val (pe_cD D__law_loads_right (hr.less (by decide)) rfl (pa_cons (pv 3) (pa_cons (pv 4) (pa_cons (pv 9) pa_nil)))))))))
       (pss_one (ps_ret pe_bl))
       pss_nil)))))))))))))
    (pss_one (ps_ret pe_bl))), ?_⟩)
  · obtain ⟨a, ns, rfl, _⟩ := h; rfl
  · obtain ⟨a, ns, rfl, hs, hn, q⟩ := h
    try walk_at "go"
    have hN : (if (if (((ns.map V.int).length : Nat) : Int) < 4 then (((ns.map V.int).length : Nat) : Int) else 4) > 1 then (if (((ns.map V.int).length : Nat) : Int) < 4 then (((ns.map V.int).length : Nat) : Int) else 4) else 1).toNat ≤ 8 := by split <;> split <;> omega
    generalize (if (if (((ns.map V.int).length : Nat) : Int) < 4 then (((ns.map V.int).length : Nat) : Int) else 4) > 1 then (if (((ns.map V.int).length : Nat) : Int) < 4 then (((ns.map V.int).length : Nat) : Int) else 4) else 1).toNat = n at hN ⊢
    refine for_range (lo := 0) (n := n) (fun i σ H2 => Kept (∃ v1 v2 v3 v4 v5 v6 v7 v8 v9 : Option V, σ = [some (.ref a), v1, v2, v3, v4, v5, v6, v7, v8, v9, none, none] ∧ Same H H2)) ⟨_, _, _, _, _, _, _, _, _, rfl, Same.refl H⟩ ?_ ?_
    · rintro i σ H1 hi ⟨v1, v2, v3, v4, v5, v6, v7, v8, v9, rfl, S1⟩
      have hs1 := S1.seq hs
      have i60 : i ≤ 60 := by omega
      have e0 : (0 : Int) + (i : Int) = (i : Int) := Int.zero_add _
      rw [e0]
      try walk_at "go"
      intro p H2 hpn S2 p2
      try walk_at "go"
      intro k0 H3 k0a k0b b3 p3
      obtain ⟨k, rfl⟩ : ∃ x : Nat, k0 = (x : Int) := ⟨k0.toNat, by omega⟩
      have hk : k ≤ 4 := by omega
      have l16 := two_k16 hk
      have sh : CShl 1 (k : Int) := shl_ok (by omega)
      have eL : (1 : Int) * 2 ^ ((k : Nat) : Int).toNat = ((2 ^ k : Nat) : Int) := shl_2k
      have ps : (0 : Int) < (1 : Int) * 2 ^ ((k : Nat) : Int).toNat := by rw [eL]; have := Nat.two_pow_pos k; omega
      try walk_at "go"
      intro B0 hB0
      have npB := purse_ne B p3 hB0
      refine lc_range (lo := 0) (n := 16) (fun j H' => Kept (∃ xs : List Int, But p H3 H' ∧ PurseAt H' p (60 + 64 + 64 * j) ∧ H' B0 = some (.lst (xs.map V.int)) ∧ xs.length = j)) ⟨[], same_but (same_new hB0 _), PurseAt.same B (same_new hB0 _) p3, upd_same, rfl⟩ ?_ ?_
      · rintro j H4 hj ⟨xs, b4, p4, hB4, lx⟩
        try walk_at "go"
        intro d H5 d0 d1 b5 p5
        have hB5 := b5 _ _ npB hB4
        have ul : (xs.map V.int).length ≤ 100 := by rw [List.length_map]; omega
        try walk_at "go"
        obtain ⟨x, c, tn, h1, h2, h3⟩ := p5
        exact ⟨⟨xs ++ [d - 99], (b4.trans b5).fr hB0, ⟨x, c, tn, by rw [upd_ne (Ne.symm npB)]; exact h1, h2, by omega⟩, by rw [upd_same, List.map_append] <;> rfl, by rw [List.length_append, lx] <;> rfl⟩⟩
      rintro H4 ⟨bs, b4, p4, hB4, lx⟩
      try walk_at "go"
      intro b hb
      generalize eH5 : upd _ b _ = H5
      have SH5 := newS eH5 hb
      have ob := newO eH5
      have p5 := PurseAt.same B SH5 p4
      have b35 := b3.trans (b4.trans (same_but SH5))
      try walk_at "go"
      intro L bx H6 b6 p6 oL lbx bx16 nL
      have npL := purse_ne B p5 nL
      have ob6 := but_keep b6 p5 _ _ ob
      try walk_at "go"
      intro E hE
      have npE := purse_ne B p6 hE
      have nLE : L ≠ E := ne_of_none oL hE
      refine lc_enum (K := K) (a := L) (xs := nV bx) (fun j H' => Kept (∃ as : List Ak, But p H6 H' ∧ PurseAt H' p (60 + 64 + 64 * 16 + 64 * 110 + 128 * j) ∧ H' E = some (.lst (as.map fun x => V.ref x.a)) ∧ as.length = j ∧ AkB H' as bx)) ⟨[], same_but (same_new hE _), PurseAt.same B (same_new hE _) p6, upd_same, rfl, fun j x h => by simp at h⟩ (fun i H' _ h => by obtain ⟨_, b, _⟩ := h.ex; exact SqL.of (b _ _ npL oL)) ?_ ?_
      · rintro j v P H7 hv ⟨as, b7, p7, hE7, la, ka7⟩ hP
        have hj : j < 2 ^ k := by have := (List.getElem?_eq_some_iff.mp hv).1; unfold nV at this; rw [List.length_map] at this; omega
        unfold nV at hv
        rw [List.getElem?_map] at hv
        obtain ⟨x, hx, rfl⟩ := Option.map_eq_some_iff.mp hv
        generalize eH8 : upd _ P (HO.tup [.int (j : Nat), .int (x : Nat)]) = H8
        have SH8 := newS eH8 hP
        have oP := newO eH8
        have p8 := PurseAt.same B SH8 p7
        try walk_at "go"
        intro da d H9 b9 p9 hda nda
        have hE9 := b9 _ _ npE (SH8 _ _ hE7)
        have ul : (as.map fun x => V.ref x.a).length ≤ 100 := by rw [List.length_map]; omega
        try walk_at "go"
        intro R hR
        generalize eH10 : upd _ R _ = H10
        have SH10 := newS eH10 hR
        have oR := newO eH10
        have hE10 := SH10 _ _ hE9
        try walk_at "go"
        have tk : ∀ t xs, H7 t = some (.tup xs) → upd H10 E (.lst ((as.map fun x => V.ref x.a) ++ [.ref R])) t = some (.tup xs) := fun t xs z => by
          have z2 := SH10 _ _ (but_keep b9 p8 _ _ (SH8 _ _ z))
          rw [upd_ne (ne_of z2 hE10 (by intro w; cases w))]
          exact z2
        have oR' : upd H10 E (.lst ((as.map fun x => V.ref x.a) ++ [.ref R])) R = some (.tup [.int (j : Nat), .int (x : Nat), .ref da]) := by
          rw [upd_ne (ne_of oR hE10 (by intro w; cases w))]
          exact oR
        have oda : upd H10 E (.lst ((as.map fun x => V.ref x.a) ++ [.ref R])) da = some (.tup d.vs) := by
          have z := SH10 _ _ hda.1
          rw [upd_ne (ne_of z hE10 (by intro w; cases w))]
          exact z
        obtain ⟨y, c, tn, h1, h2, h3⟩ := PurseAt.same B SH10 p9
        refine ⟨⟨as ++ [⟨R, (j : Int), x, da, d⟩], ((b7.trans (same_but SH8)).trans (b9.trans (same_but SH10))).fr hE, ⟨y, c, tn, by rw [upd_ne (Ne.symm npE)]; exact h1, h2, by omega⟩, by rw [upd_same, List.map_append] <;> rfl, by rw [List.length_append, la] <;> rfl, fun j' x' e => ?_⟩⟩
        by_cases c : j' < as.length
        · rw [List.getElem?_append_left c] at e
          exact (ka7.keep tk) j' x' e
        · rw [List.getElem?_append_right (by omega)] at e
          have q1 := (List.getElem?_eq_some_iff.mp e).1
          have q2 : [(⟨R, (j : Int), x, da, d⟩ : Ak)].length = 1 := rfl
          obtain rfl : j' = j := by omega
          rw [la, Nat.sub_self] at e
          cases (Option.some.inj e)
          exact ⟨⟨oR', ⟨oda, hda.2⟩, by show (0 : Int) ≤ (j' : Int); omega, by show (j' : Int) < 16; omega, bx16 x (List.mem_of_getElem? hx)⟩, rfl, hx⟩
      rintro H7 ⟨as, b7, p7, hE7, la, ka7⟩
      have lnv : (nV bx).length = 2 ^ k := by unfold nV; rw [List.length_map, lbx]
      rw [lnv] at p7 la
      have ob7 := but_keep b7 p6 _ _ ob6
      have oL7 := b7 _ _ npL oL
      have hE7' : H7 E = some (.lst ((as.map fun x => x.a).map V.ref)) := by rw [hE7, List.map_map] <;> rfl
      have l16a : (as.map fun x => x.a).length ≤ 16 := by rw [List.length_map]; omega
      try walk_at "go"
      intro D us H8 b8 p8 oD pm nD
      obtain ⟨as', pm2, rfl⟩ := perm_back B pm
      have ob8 := but_keep b8 p7 _ _ ob7
      have oL8 := b8 _ _ npL oL7
      have ka8 := ka7.keep (but_keep b8 p7)
      try walk_at "go"
      intro A hA
      generalize eH9 : upd _ A _ = H9
      have SH9 := newS eH9 hA
      have oA := newO eH9
      have oA9 : H9 A = some (.tup (as'.map fun x => V.ref x.a)) := by rw [oA, List.map_map] <;> rfl
      have ka9 := ka8.keep fun t xs z => SH9 _ _ z
      have la' : as'.length = 2 ^ k := by rw [pm2.length_eq, la]
      have mem' : ∀ x ∈ as', ∃ j : Nat, j < 2 ^ k ∧ x.at_ H9 16 ∧ x.hand = (j : Int) ∧ bx[j]? = some x.box := fun x hx => by
        obtain ⟨j, hj, e⟩ := List.getElem_of_mem (pm2.mem_iff.mp hx)
        have e2 : as[j]? = some x := by rw [List.getElem?_eq_getElem hj, e]
        obtain ⟨g1, g2, g3⟩ := ka9 j x e2
        exact ⟨j, by omega, g1, g2, g3⟩
      have ak9 : AsksAt H9 A as' 16 := ⟨oA9, by omega, fun x hx => by obtain ⟨j, _, g, _⟩ := mem' x hx; exact g⟩
      have hd9 : ∀ x ∈ as', x.hand.toNat < 2 ^ k := fun x hx => by obtain ⟨j, hj, _, g, _⟩ := mem' x hx; rw [g, Int.toNat_natCast]; exact hj
      have hands : as.map (fun x => x.hand) = (List.range (2 ^ k)).map fun j : Nat => (j : Int) := by
        refine List.ext_getElem? fun j => ?_
        rw [List.getElem?_map, List.getElem?_map]
        by_cases c : j < 2 ^ k
        · have hj : j < as.length := by omega
          rw [List.getElem?_range c, List.getElem?_eq_getElem hj]
          exact congrArg some (ka9 j as[j] (List.getElem?_eq_getElem hj)).2.1
        · rw [List.getElem?_eq_none (by omega), List.getElem?_eq_none (by rw [List.length_range]; omega)] <;> rfl
      have nd9 : (as'.map fun x => x.hand).Nodup := by
        refine (pm2.map fun x : Ak => x.hand).nodup_iff.mpr ?_
        rw [hands]
        exact (List.pairwise_map.mpr (List.pairwise_lt_range.imp fun h z => by omega))
      have bd9 : BoardAt H9 b bs := ⟨SH9 _ _ ob8, by omega, by omega⟩
      have rn9 : RnAt H9 k b A bs as' := ⟨bd9, by rw [lx]; exact ak9, nd9, hd9⟩
      obtain ⟨g, eg⟩ : ∃ g : Nat → Nat, g = fun j => bx.getD j 0 % 2 ^ k := ⟨_, rfl⟩
      have gd : Gd k g := fun h _ => by rw [eg]; exact Nat.mod_lt _ (Nat.two_pow_pos k)
      have prsE : as.map (akP k) = prs k g := by
        refine List.ext_getElem? fun j => ?_
        unfold prs
        rw [List.getElem?_map, List.getElem?_map]
        by_cases c : j < 2 ^ k
        · have hj : j < as.length := by omega
          rw [List.getElem?_range c, List.getElem?_eq_getElem hj]
          obtain ⟨_, g2, g3⟩ := ka9 j as[j] (List.getElem?_eq_getElem hj)
          refine congrArg some ?_
          unfold akP
          rw [g2, Int.toNat_natCast, eg]
          show (j, as[j].box % 2 ^ k) = (j, bx.getD j 0 % 2 ^ k)
          rw [List.getD_eq_getElem?_getD, g3] <;> rfl
        · rw [List.getElem?_eq_none (by omega), List.getElem?_eq_none (by rw [List.length_range]; omega)] <;> rfl
      have oL9 := SH9 _ _ oL8
      have p9 := PurseAt.same B SH9 p8
      have h16' : as'.length ≤ 16 := by omega
      try walk_at "go"
      intro T H10 S10 hT10
      have pl40 : ∀ lv, lv ≤ k → (plL k as' lv).length ≤ 40 ∧ ∀ x ∈ plL k as' lv, 0 ≤ x ∧ x < ((2 ^ k : Nat) : Int) := fun lv hl => by
        refine ⟨by unfold plL; rw [List.length_map]; omega, fun y hy => ?_⟩
        obtain ⟨x, hx, rfl⟩ := List.mem_map.mp hy
        exact low_rng hk (hd9 x hx) (Nat.mod_lt _ (Nat.two_pow_pos k)) hl
      try walk_at "go"
      intro r v H11 F11 S11 hv
      have hv11 : LnV H11 r v := hv
      have oL11 := (S10.trans S11) _ _ oL9
      try walk_at "go"
      intro E2 hE2
      refine lc_list (K := K) (a := L) (xs := nV bx) (fun j H' => Kept (Same H11 H' ∧ H' E2 = some (.lst (nV ((sdl k g).take j))))) ⟨same_new hE2 _, upd_same⟩ (fun i H' _ h => SqL.of (h.ex.1 _ _ oL11)) ?_ ?_
      · rintro j w H12 hw ⟨S12, hE12⟩
        have hj : j < 2 ^ k := by rw [← lnv]; exact (List.getElem?_eq_some_iff.mp hw).1
        unfold nV at hw
        rw [List.getElem?_map] at hw
        obtain ⟨x, hx, rfl⟩ := Option.map_eq_some_iff.mp hw
        have en : (fun i j : Int => V.int (i % j)) (x : Int) ((1 : Int) * 2 ^ ((k : Nat) : Int).toNat) = V.int ((x % 2 ^ k : Nat) : Int) := by
          show V.int ((x : Int) % ((1 : Int) * 2 ^ ((k : Nat) : Int).toNat)) = _
          rw [eL]
          push_cast
          rfl
        have e9 : (sdl k g)[j]? = some (x % 2 ^ k) := by
          unfold sdl
          rw [List.getElem?_map, List.getElem?_range hj, eg]
          show some (bx.getD j 0 % 2 ^ k) = _
          rw [List.getD_eq_getElem?_getD, hx] <;> rfl
        have ul : (nV ((sdl k g).take j)).length ≤ 100 := by unfold nV; rw [List.length_map, List.length_take]; omega
        try walk_at "go"
        rw [en]
        exact ⟨⟨but_same hE2 S12 But.upd, by rw [upd_same, nV_snoc, take_snoc e9]⟩⟩
      rintro H12 ⟨S12, hE12⟩
      have sl : (sdl k g).length = 2 ^ k := by unfold sdl; rw [List.length_map, List.length_range]
      rw [lnv, show (sdl k g).take (2 ^ k) = sdl k g from List.take_of_length_le (by omega)] at hE12
      try walk_at "go"
      intro T2 hT2
      generalize eH13 : upd _ T2 _ = H13
      have SH13 := newS eH13 hT2
      have oT2 := newO eH13
      try walk_at "go"
      intro U H14 S14 told
      have S914 : Same H9 H14 := S10.trans (S11.trans (S12.trans (SH13.trans S14)))
      have b09 : But p H2 H9 := b35.trans (b6.trans (b7.trans (b8.trans (same_but SH9))))
      have F11' : Fst (lns k (prs k g)) k r := by
        rw [← prsE]
        refine Fst.perm (f := lns k (as'.map (akP k))) (fun lv => ?_) (F11.congr fun lv hl => plL_lns hk hd9 hl)
        unfold lns
        exact (pm2.map _).map _
      obtain ⟨wd, X, oU, hw⟩ : ∃ (wd : Str) (X : Addr), H14 U = some (.tup [.str wd, .ref X]) ∧ ((wd = "settings" ∧ r = none) ∨ (wd = "clash" ∧ ∃ y, r = some y ∧ H14 X = some (.tup [.int (y.1 : Nat), .int y.2]))) := by
        rcases told with ⟨X, y, f, o1, o2⟩ | ⟨X, c, ap, o1, _⟩
        · exact ⟨_, X, o1, .inr ⟨rfl, y, F11'.uniq f, o2⟩⟩
        · exact ⟨_, X, o1, .inl ⟨rfl, F11'.uniq (no_of (by omega) gd ap)⟩⟩
      have i0 : atI [V.str wd, .ref X] 0 = some (.str wd) := rfl
      have p14 := PurseAt.same B S914 p9
      have hv14 := hv11.same (S12.trans (SH13.trans S14))
      rcases hw with ⟨rfl, rfl⟩ | ⟨rfl, y, rfl, oX⟩
      · obtain rfl : v = .non := hv14
        have S9E := S914
        have rn14 := rn9.same S914
        have rn9k : ∀ H', But p H14 H' → RnAt H' k b A bs as' := fun H' bb => rnKeep bb p14 rn14
        try walk_at "go"
        intro d HA d0 d1 bA pA
        obtain ⟨d, rfl⟩ : ∃ x : Nat, d = (x : Int) := ⟨d.toNat, by omega⟩
        have rnA := rn9k _ bA
        have oAA := rnA.ak.1
        try walk_at "go"
        intro W HB SB oW
        rw [cut_to, ← List.map_take] at oW
        have rnB := rnA.same SB
        have rnC : RnAt HB k b W bs (as'.take d) := ⟨rnB.bd, ⟨oW, by rw [List.length_take]; omega, fun x hx => rnB.ak.2.2 x (List.mem_of_mem_take hx)⟩, by rw [List.map_take]; exact (List.take_sublist _ _).nodup rnB.nd, fun x hx => rnB.hd x (List.mem_of_mem_take hx)⟩
        have lC : (as'.take d).length ≤ 16 := by rw [List.length_take]; omega
        try walk_at "go"
        intro HC SC
        have rnD := rnC.same SC
        try walk_at "go"
        intro HD SD
        try walk_at "go"
        exact ⟨⟨_, _, _, _, _, _, _, _, _, rfl, S1.trans (but_same hpn S2 (b09.trans ((same_but S9E).trans (bA.trans (same_but (SB.trans (SC.trans SD)))))))⟩⟩
      · obtain ⟨V9, rfl, oV9⟩ := hv14
        try walk_at "go"
        intro Z hZ
        generalize eH15 : upd _ Z _ = H15
        have SH15 := newS eH15 hZ
        have oZ := newO eH15
        have S9E := S914.trans SH15
        have p15 := PurseAt.same B SH15 p14
        have rn15 := rn9.same S9E
        have rn9k : ∀ H', But p H15 H' → RnAt H' k b A bs as' := fun H' bb => rnKeep bb p15 rn15
        have ly : Ly 2 (.tuple [.str "clash", .tuple [.int (y.1 : Nat), .int y.2]]) := Ly.tup2 .str (Ly.tup2 .int .int)
        have dU : Dp K H15 (.ref U) (.tuple [.str "clash", .tuple [.int (y.1 : Nat), .int y.2]]) := .tup (SqT.of (SH15 _ _ oU)) (.cons (.str _) (.cons (.tup (SqT.of (SH15 _ _ oX)) (.cons (.int _) (.cons (.int _) .nil))) .nil))
        have dZ : Dp K H15 (.ref Z) (.tuple [.str "clash", .tuple [.int (y.1 : Nat), .int y.2]]) := .tup (SqT.of oZ) (.cons (.str _) (.cons (.tup (SqT.of (SH15 _ _ oV9)) (.cons (.int _) (.cons (.int _) .nil))) .nil))
        refine ⟨_, _, dU, dZ, ly.sh, ly.sh, _, rfl, ?_⟩
        rw [ly.refl]
        refine ifF rfl ?_
        try walk_at "go"
        intro d HA d0 d1 bA pA
        obtain ⟨d, rfl⟩ : ∃ x : Nat, d = (x : Int) := ⟨d.toNat, by omega⟩
        have rnA := rn9k _ bA
        have oAA := rnA.ak.1
        try walk_at "go"
        intro W HB SB oW
        rw [cut_to, ← List.map_take] at oW
        have rnB := rnA.same SB
        have rnC : RnAt HB k b W bs (as'.take d) := ⟨rnB.bd, ⟨oW, by rw [List.length_take]; omega, fun x hx => rnB.ak.2.2 x (List.mem_of_mem_take hx)⟩, by rw [List.map_take]; exact (List.take_sublist _ _).nodup rnB.nd, fun x hx => rnB.hd x (List.mem_of_mem_take hx)⟩
        have lC : (as'.take d).length ≤ 16 := by rw [List.length_take]; omega
        try walk_at "go"
        intro HC SC
        have rnD := rnC.same SC
        try walk_at "go"
        intro HD SD
        try walk_at "go"
        exact ⟨⟨_, _, _, _, _, _, _, _, _, rfl, S1.trans (but_same hpn S2 (b09.trans ((same_but S9E).trans (bA.trans (same_but (SB.trans (SC.trans SD)))))))⟩⟩
    rintro σ H1 ⟨v1, v2, v3, v4, v5, v6, v7, v8, v9, rfl, S1⟩
    try walk_at "go"
    exact q _
end
structure AllD (K : PySem.W.Frag) (mg : Str → Option Value) : Prop where
  d_is_whole : Df K mg "is_whole" s_is_whole ["thing"]
  d_is_within : Df K mg "is_within" s_is_within ["thing", "least", "most"]
  d_is_row_of : Df K mg "is_row_of" s_is_row_of ["thing", "many"]
  d_want_net : Dfd K mg "want_net" s_want_net ["k", "deepest"] [.int 4]
  d_is_line : Df K mg "is_line" s_is_line ["k", "thing"]
  d_want_hand : Df K mg "want_hand" s_want_hand ["k", "thing"]
  d_want_side : Df K mg "want_side" s_want_side ["k", "thing"]
  d_line_on_way : Df K mg "line_on_way" s_line_on_way ["k", "hand", "goal", "level"]
  d_figure_in : Df K mg "figure_in" s_figure_in ["k", "line", "stage"]
  d_number_without : Df K mg "number_without" s_number_without ["k", "line", "stage"]
  d_way : Df K mg "way" s_way ["k", "hand", "side"]
  d_want_pairs : Df K mg "want_pairs" s_want_pairs ["k", "pairs"]
  d_shared_line : Df K mg "shared_line" s_shared_line ["k", "pairs"]
  d_first_shared : Df K mg "first_shared" s_first_shared ["k", "pairs"]
  d_is_end : Df K mg "is_end" s_is_end ["thing"]
  d_is_deed : Df K mg "is_deed" s_is_deed ["thing"]
  d_put_through : Df K mg "put_through" s_put_through ["deed", "value"]
  d_whole_deed : Df K mg "whole_deed" s_whole_deed ["add", "low", "high"]
  d_one_behind : Df K mg "one_behind" s_one_behind ["one", "other"]
  d_is_board : Df K mg "is_board" s_is_board ["thing"]
  d_want_board : Df K mg "want_board" s_want_board ["board"]
  d_is_ask : Df K mg "is_ask" s_is_ask ["board", "thing"]
  d_are_asks : Df K mg "are_asks" s_are_asks ["board", "thing"]
  d_want_asks : Df K mg "want_asks" s_want_asks ["board", "asks"]
  d_is_setting_row : Df K mg "is_setting_row" s_is_setting_row ["k", "thing"]
  d_is_settings : Df K mg "is_settings" s_is_settings ["k", "thing"]
  d_want_settings : Df K mg "want_settings" s_want_settings ["k", "thing"]
  d_plain_rows : Df K mg "plain_rows" s_plain_rows ["k"]
  d_as_settings : Df K mg "as_settings" s_as_settings ["rows"]
  d_straight : Df K mg "straight" s_straight ["k"]
  d_led_from : Df K mg "led_from" s_led_from ["k", "settings", "hand"]
  d_led : Df K mg "led" s_led ["k", "settings"]
  d_want_sides : Df K mg "want_sides" s_want_sides ["k", "sides"]
  d_settings_by : Df K mg "settings_by" s_settings_by ["k", "sides"]
  d_settings_for : Df K mg "settings_for" s_settings_for ["k", "sides"]
  d_want_round : Df K mg "want_round" s_want_round ["k", "board", "asks"]
  d_side_of_box : Df K mg "side_of_box" s_side_of_box ["k", "box"]
  d_line_of : Df K mg "line_of" s_line_of ["k", "one", "level"]
  d_comes_first : Df K mg "comes_first" s_comes_first ["k", "stage", "hand", "goal", "firsts"]
  d_in_turn : Df K mg "in_turn" s_in_turn ["k", "stage", "row", "firsts"]
  d_joined : Df K mg "joined" s_joined ["one", "other"]
  d_behind_stage : Df K mg "behind_stage" s_behind_stage ["k", "stage", "row", "firsts"]
  d_put_in : Df K mg "put_in" s_put_in ["asks"]
  d_gone : Df K mg "gone" s_gone ["k", "asks", "firsts"]
  d_load_row : Df K mg "load_row" s_load_row ["k", "lines"]
  d_joined_loads : Df K mg "joined_loads" s_joined_loads ["k", "board", "asks"]
  d_plain_loads : Df K mg "plain_loads" s_plain_loads ["k", "board", "asks"]
  d__law_rich : Df K mg "_law_rich" s__law_rich ["_law_cell", "_law_turn"]
  d__law_purse : Df K mg "_law_purse" s__law_purse ["_law_script", "_law_k"]
  d__law_take : Df K mg "_law_take" s__law_take ["_law_purse_here", "_law_many"]
  d__law_settings : Df K mg "_law_settings" s__law_settings ["_law_purse_here", "_law_k"]
  d__law_sides : Df K mg "_law_sides" s__law_sides ["_law_purse_here", "_law_k"]
  d__law_boxes : Df K mg "_law_boxes" s__law_boxes ["_law_purse_here", "_law_k"]
  d__law_mixed : Df K mg "_law_mixed" s__law_mixed ["_law_purse_here", "_law_some"]
  d__law_deed : Df K mg "_law_deed" s__law_deed ["_law_purse_here"]
  d__law_due : Df K mg "_law_due" s__law_due ["_law_k", "_law_asks"]
  d__law_are_rows : Df K mg "_law_are_rows" s__law_are_rows ["_law_told", "_law_due_here"]
  d__law_first_full : Df K mg "_law_first_full" s__law_first_full ["_law_loads"]
  d__law_unlike_boxes : Df K mg "_law_unlike_boxes" s__law_unlike_boxes ["_law_k", "_law_asks"]
  d__law_joined_right : Df K mg "_law_joined_right" s__law_joined_right ["_law_k", "_law_board", "_law_asks"]
  d__law_loads_right : Df K mg "_law_loads_right" s__law_loads_right ["_law_k", "_law_board", "_law_asks"]
  d_law : Df K mg "law" s_law ["_law_script"]
  d_Carried____init__ : DfI K (cAt mg "Carried") "Carried.__init__" s_Carried____init__ ["self", "hand", "box", "deed", "parts"]
  bl : Bl K mg
theorem all_mk {w : World} {K : PySem.W.Frag} {h : Heap} {mg : Str → Option Value} (X : K.In h) (G : h.Ns mainGlobals mg)
    {f1 f2 f3 f4 f5 f6 f7 f8 f9 f10 f11 f12 f13 f14 f15 f16 f17 f18 f19 f20 f21 f22 f23 f24 f25 f26 f27 f28 f29 f30 f31 f32 f33 f34 f35 f36 f37 f38 f39 f40 f41 f42 f43 f44 f45 f46 f47 f48 f49 f50 f51 f52 f53 f54 f55 f56 f57 f58 f59 f60 f61 f62 f63 : Addr} {od1 an1 od2 an2 od3 an3 od4 an4 od5 an5 od6 an6 od7 an7 od8 an8 od9 an9 od10 an10 od11 an11 od12 an12 od13 an13 od14 an14 od15 an15 od16 an16 od17 an17 od18 an18 od19 an19 od20 an20 od21 an21 od22 an22 od23 an23 od24 an24 od25 an25 od26 an26 od27 an27 od28 an28 od29 an29 od30 an30 od31 an31 od32 an32 od33 an33 od34 an34 od35 an35 od36 an36 od37 an37 od38 an38 od39 an39 od40 an40 od41 an41 od42 an42 od43 an43 od44 an44 od45 an45 od46 an46 od47 an47 od48 an48 od49 an49 od50 an50 od51 an51 od52 an52 od53 an53 od54 an54 od55 an55 od56 an56 od57 an57 od58 an58 od59 an59 od60 an60 od61 an61 od62 an62 od63 an63 : Option Addr} {sl1 sl2 sl3 sl4 sl5 sl6 sl7 sl8 sl9 sl10 sl11 sl12 sl13 sl14 sl15 sl16 sl17 sl18 sl19 sl20 sl21 sl22 sl23 sl24 sl25 sl26 sl27 sl28 sl29 sl30 sl31 sl32 sl33 sl34 sl35 sl36 sl37 sl38 sl39 sl40 sl41 sl42 sl43 sl44 sl45 sl46 sl47 sl48 sl49 sl50 sl51 sl52 sl53 sl54 sl55 sl56 sl57 sl58 sl59 sl60 sl61 sl62 sl63 : Array (Option Value)} {oc1 kV1 dc1 pm1 cd1 ct1 oc2 kV2 dc2 pm2 cd2 ct2 oc3 kV3 dc3 pm3 cd3 ct3 oc4 kV4 dc4 pm4 cd4 ct4 oc5 kV5 dc5 pm5 cd5 ct5 oc6 kV6 dc6 pm6 cd6 ct6 oc7 kV7 dc7 pm7 cd7 ct7 oc8 kV8 dc8 pm8 cd8 ct8 oc9 kV9 dc9 pm9 cd9 ct9 oc10 kV10 dc10 pm10 cd10 ct10 oc11 kV11 dc11 pm11 cd11 ct11 oc12 kV12 dc12 pm12 cd12 ct12 oc13 kV13 dc13 pm13 cd13 ct13 oc14 kV14 dc14 pm14 cd14 ct14 oc15 kV15 dc15 pm15 cd15 ct15 oc16 kV16 dc16 pm16 cd16 ct16 oc17 kV17 dc17 pm17 cd17 ct17 oc18 kV18 dc18 pm18 cd18 ct18 oc19 kV19 dc19 pm19 cd19 ct19 oc20 kV20 dc20 pm20 cd20 ct20 oc21 kV21 dc21 pm21 cd21 ct21 oc22 kV22 dc22 pm22 cd22 ct22 oc23 kV23 dc23 pm23 cd23 ct23 oc24 kV24 dc24 pm24 cd24 ct24 oc25 kV25 dc25 pm25 cd25 ct25 oc26 kV26 dc26 pm26 cd26 ct26 oc27 kV27 dc27 pm27 cd27 ct27 oc28 kV28 dc28 pm28 cd28 ct28 oc29 kV29 dc29 pm29 cd29 ct29 oc30 kV30 dc30 pm30 cd30 ct30 oc31 kV31 dc31 pm31 cd31 ct31 oc32 kV32 dc32 pm32 cd32 ct32 oc33 kV33 dc33 pm33 cd33 ct33 oc34 kV34 dc34 pm34 cd34 ct34 oc35 kV35 dc35 pm35 cd35 ct35 oc36 kV36 dc36 pm36 cd36 ct36 oc37 kV37 dc37 pm37 cd37 ct37 oc38 kV38 dc38 pm38 cd38 ct38 oc39 kV39 dc39 pm39 cd39 ct39 oc40 kV40 dc40 pm40 cd40 ct40 oc41 kV41 dc41 pm41 cd41 ct41 oc42 kV42 dc42 pm42 cd42 ct42 oc43 kV43 dc43 pm43 cd43 ct43 oc44 kV44 dc44 pm44 cd44 ct44 oc45 kV45 dc45 pm45 cd45 ct45 oc46 kV46 dc46 pm46 cd46 ct46 oc47 kV47 dc47 pm47 cd47 ct47 oc48 kV48 dc48 pm48 cd48 ct48 oc49 kV49 dc49 pm49 cd49 ct49 oc50 kV50 dc50 pm50 cd50 ct50 oc51 kV51 dc51 pm51 cd51 ct51 oc52 kV52 dc52 pm52 cd52 ct52 oc53 kV53 dc53 pm53 cd53 ct53 oc54 kV54 dc54 pm54 cd54 ct54 oc55 kV55 dc55 pm55 cd55 ct55 oc56 kV56 dc56 pm56 cd56 ct56 oc57 kV57 dc57 pm57 cd57 ct57 oc58 kV58 dc58 pm58 cd58 ct58 oc59 kV59 dc59 pm59 cd59 ct59 oc60 kV60 dc60 pm60 cd60 ct60 oc61 kV61 dc61 pm61 cd61 ct61 oc62 kV62 dc62 pm62 cd62 ct62 oc63 kV63 dc63 pm63 cd63 ct63 : Value}
    {da4 : Addr}
    {C0 : Addr} (aC0 : PySem.W.nsIn K mainGlobals "Carried" = some (some (.ref C0))) (pg0 : PySem.W.plainGet K C0 Str.empty = true) (hd0 : PySem.W.hasDictIn K C0 = true) (po0 : PySem.W.plainOver K C0 = true) (sa0 : PySem.W.findIn K (.ref C0) "__setattr__" = some (some (.builtin "object.__setattr__"))) (mk0 : PySem.W.makesIn K C0 = true) (kc0 : PySem.W.keepIn K (.ref C0) = true)
    (nf0_0 : PySem.W.findIn K (.ref C0) "box" = some none)
    (nf0_1 : PySem.W.findIn K (.ref C0) "deed" = some none)
    (nf0_2 : PySem.W.findIn K (.ref C0) "hand" = some none)
    (nf0_3 : PySem.W.findIn K (.ref C0) "parts" = some none)
    (a1 : PySem.W.nsIn K mainGlobals "is_whole" = some (some (.ref f1))) (l1 : K.lookup f1 = some ⟨oc1, od1, .func (PySem.W.fnOf "is_whole" "is_whole" (defArgs s_is_whole) (defBody s_is_whole) (defScope s_is_whole) .none kV1 dc1 pm1 an1 cd1 ct1), sl1⟩) (c1 : PySem.W.codeIn K cd1 "is_whole" = true) (k1 : PySem.W.keepIn K (.ref f1) = true)
    (a2 : PySem.W.nsIn K mainGlobals "is_within" = some (some (.ref f2))) (l2 : K.lookup f2 = some ⟨oc2, od2, .func (PySem.W.fnOf "is_within" "is_within" (defArgs s_is_within) (defBody s_is_within) (defScope s_is_within) .none kV2 dc2 pm2 an2 cd2 ct2), sl2⟩) (c2 : PySem.W.codeIn K cd2 "is_within" = true) (k2 : PySem.W.keepIn K (.ref f2) = true)
    (a3 : PySem.W.nsIn K mainGlobals "is_row_of" = some (some (.ref f3))) (l3 : K.lookup f3 = some ⟨oc3, od3, .func (PySem.W.fnOf "is_row_of" "is_row_of" (defArgs s_is_row_of) (defBody s_is_row_of) (defScope s_is_row_of) .none kV3 dc3 pm3 an3 cd3 ct3), sl3⟩) (c3 : PySem.W.codeIn K cd3 "is_row_of" = true) (k3 : PySem.W.keepIn K (.ref f3) = true)
    (a4 : PySem.W.nsIn K mainGlobals "want_net" = some (some (.ref f4))) (l4 : K.lookup f4 = some ⟨oc4, od4, .func (PySem.W.fnOf "want_net" "want_net" (defArgs s_want_net) (defBody s_want_net) (defScope s_want_net) (.ref da4) kV4 dc4 pm4 an4 cd4 ct4), sl4⟩) (c4 : PySem.W.codeIn K cd4 "want_net" = true) (k4 : PySem.W.keepIn K (.ref f4) = true)
    {dt4_0 : Tok} {dd4 : Option Addr} {dn4 : Nat} {dz4 : Array (Option Value)} (dl4 : K.lookup da4 = some ⟨.type "tuple", dd4, .seq #[.int 4 dt4_0] dn4, dz4⟩)
    (a5 : PySem.W.nsIn K mainGlobals "is_line" = some (some (.ref f5))) (l5 : K.lookup f5 = some ⟨oc5, od5, .func (PySem.W.fnOf "is_line" "is_line" (defArgs s_is_line) (defBody s_is_line) (defScope s_is_line) .none kV5 dc5 pm5 an5 cd5 ct5), sl5⟩) (c5 : PySem.W.codeIn K cd5 "is_line" = true) (k5 : PySem.W.keepIn K (.ref f5) = true)
    (a6 : PySem.W.nsIn K mainGlobals "want_hand" = some (some (.ref f6))) (l6 : K.lookup f6 = some ⟨oc6, od6, .func (PySem.W.fnOf "want_hand" "want_hand" (defArgs s_want_hand) (defBody s_want_hand) (defScope s_want_hand) .none kV6 dc6 pm6 an6 cd6 ct6), sl6⟩) (c6 : PySem.W.codeIn K cd6 "want_hand" = true) (k6 : PySem.W.keepIn K (.ref f6) = true)
    (a7 : PySem.W.nsIn K mainGlobals "want_side" = some (some (.ref f7))) (l7 : K.lookup f7 = some ⟨oc7, od7, .func (PySem.W.fnOf "want_side" "want_side" (defArgs s_want_side) (defBody s_want_side) (defScope s_want_side) .none kV7 dc7 pm7 an7 cd7 ct7), sl7⟩) (c7 : PySem.W.codeIn K cd7 "want_side" = true) (k7 : PySem.W.keepIn K (.ref f7) = true)
    (a8 : PySem.W.nsIn K mainGlobals "line_on_way" = some (some (.ref f8))) (l8 : K.lookup f8 = some ⟨oc8, od8, .func (PySem.W.fnOf "line_on_way" "line_on_way" (defArgs s_line_on_way) (defBody s_line_on_way) (defScope s_line_on_way) .none kV8 dc8 pm8 an8 cd8 ct8), sl8⟩) (c8 : PySem.W.codeIn K cd8 "line_on_way" = true) (k8 : PySem.W.keepIn K (.ref f8) = true)
    (a9 : PySem.W.nsIn K mainGlobals "figure_in" = some (some (.ref f9))) (l9 : K.lookup f9 = some ⟨oc9, od9, .func (PySem.W.fnOf "figure_in" "figure_in" (defArgs s_figure_in) (defBody s_figure_in) (defScope s_figure_in) .none kV9 dc9 pm9 an9 cd9 ct9), sl9⟩) (c9 : PySem.W.codeIn K cd9 "figure_in" = true) (k9 : PySem.W.keepIn K (.ref f9) = true)
    (a10 : PySem.W.nsIn K mainGlobals "number_without" = some (some (.ref f10))) (l10 : K.lookup f10 = some ⟨oc10, od10, .func (PySem.W.fnOf "number_without" "number_without" (defArgs s_number_without) (defBody s_number_without) (defScope s_number_without) .none kV10 dc10 pm10 an10 cd10 ct10), sl10⟩) (c10 : PySem.W.codeIn K cd10 "number_without" = true) (k10 : PySem.W.keepIn K (.ref f10) = true)
    (a11 : PySem.W.nsIn K mainGlobals "way" = some (some (.ref f11))) (l11 : K.lookup f11 = some ⟨oc11, od11, .func (PySem.W.fnOf "way" "way" (defArgs s_way) (defBody s_way) (defScope s_way) .none kV11 dc11 pm11 an11 cd11 ct11), sl11⟩) (c11 : PySem.W.codeIn K cd11 "way" = true) (k11 : PySem.W.keepIn K (.ref f11) = true)
    (a12 : PySem.W.nsIn K mainGlobals "want_pairs" = some (some (.ref f12))) (l12 : K.lookup f12 = some ⟨oc12, od12, .func (PySem.W.fnOf "want_pairs" "want_pairs" (defArgs s_want_pairs) (defBody s_want_pairs) (defScope s_want_pairs) .none kV12 dc12 pm12 an12 cd12 ct12), sl12⟩) (c12 : PySem.W.codeIn K cd12 "want_pairs" = true) (k12 : PySem.W.keepIn K (.ref f12) = true)
    (a13 : PySem.W.nsIn K mainGlobals "shared_line" = some (some (.ref f13))) (l13 : K.lookup f13 = some ⟨oc13, od13, .func (PySem.W.fnOf "shared_line" "shared_line" (defArgs s_shared_line) (defBody s_shared_line) (defScope s_shared_line) .none kV13 dc13 pm13 an13 cd13 ct13), sl13⟩) (c13 : PySem.W.codeIn K cd13 "shared_line" = true) (k13 : PySem.W.keepIn K (.ref f13) = true)
    (a14 : PySem.W.nsIn K mainGlobals "first_shared" = some (some (.ref f14))) (l14 : K.lookup f14 = some ⟨oc14, od14, .func (PySem.W.fnOf "first_shared" "first_shared" (defArgs s_first_shared) (defBody s_first_shared) (defScope s_first_shared) .none kV14 dc14 pm14 an14 cd14 ct14), sl14⟩) (c14 : PySem.W.codeIn K cd14 "first_shared" = true) (k14 : PySem.W.keepIn K (.ref f14) = true)
    (a15 : PySem.W.nsIn K mainGlobals "is_end" = some (some (.ref f15))) (l15 : K.lookup f15 = some ⟨oc15, od15, .func (PySem.W.fnOf "is_end" "is_end" (defArgs s_is_end) (defBody s_is_end) (defScope s_is_end) .none kV15 dc15 pm15 an15 cd15 ct15), sl15⟩) (c15 : PySem.W.codeIn K cd15 "is_end" = true) (k15 : PySem.W.keepIn K (.ref f15) = true)
    (a16 : PySem.W.nsIn K mainGlobals "is_deed" = some (some (.ref f16))) (l16 : K.lookup f16 = some ⟨oc16, od16, .func (PySem.W.fnOf "is_deed" "is_deed" (defArgs s_is_deed) (defBody s_is_deed) (defScope s_is_deed) .none kV16 dc16 pm16 an16 cd16 ct16), sl16⟩) (c16 : PySem.W.codeIn K cd16 "is_deed" = true) (k16 : PySem.W.keepIn K (.ref f16) = true)
    (a17 : PySem.W.nsIn K mainGlobals "put_through" = some (some (.ref f17))) (l17 : K.lookup f17 = some ⟨oc17, od17, .func (PySem.W.fnOf "put_through" "put_through" (defArgs s_put_through) (defBody s_put_through) (defScope s_put_through) .none kV17 dc17 pm17 an17 cd17 ct17), sl17⟩) (c17 : PySem.W.codeIn K cd17 "put_through" = true) (k17 : PySem.W.keepIn K (.ref f17) = true)
    (a18 : PySem.W.nsIn K mainGlobals "whole_deed" = some (some (.ref f18))) (l18 : K.lookup f18 = some ⟨oc18, od18, .func (PySem.W.fnOf "whole_deed" "whole_deed" (defArgs s_whole_deed) (defBody s_whole_deed) (defScope s_whole_deed) .none kV18 dc18 pm18 an18 cd18 ct18), sl18⟩) (c18 : PySem.W.codeIn K cd18 "whole_deed" = true) (k18 : PySem.W.keepIn K (.ref f18) = true)
    (a19 : PySem.W.nsIn K mainGlobals "one_behind" = some (some (.ref f19))) (l19 : K.lookup f19 = some ⟨oc19, od19, .func (PySem.W.fnOf "one_behind" "one_behind" (defArgs s_one_behind) (defBody s_one_behind) (defScope s_one_behind) .none kV19 dc19 pm19 an19 cd19 ct19), sl19⟩) (c19 : PySem.W.codeIn K cd19 "one_behind" = true) (k19 : PySem.W.keepIn K (.ref f19) = true)
    (a20 : PySem.W.nsIn K mainGlobals "is_board" = some (some (.ref f20))) (l20 : K.lookup f20 = some ⟨oc20, od20, .func (PySem.W.fnOf "is_board" "is_board" (defArgs s_is_board) (defBody s_is_board) (defScope s_is_board) .none kV20 dc20 pm20 an20 cd20 ct20), sl20⟩) (c20 : PySem.W.codeIn K cd20 "is_board" = true) (k20 : PySem.W.keepIn K (.ref f20) = true)
    (a21 : PySem.W.nsIn K mainGlobals "want_board" = some (some (.ref f21))) (l21 : K.lookup f21 = some ⟨oc21, od21, .func (PySem.W.fnOf "want_board" "want_board" (defArgs s_want_board) (defBody s_want_board) (defScope s_want_board) .none kV21 dc21 pm21 an21 cd21 ct21), sl21⟩) (c21 : PySem.W.codeIn K cd21 "want_board" = true) (k21 : PySem.W.keepIn K (.ref f21) = true)
    (a22 : PySem.W.nsIn K mainGlobals "is_ask" = some (some (.ref f22))) (l22 : K.lookup f22 = some ⟨oc22, od22, .func (PySem.W.fnOf "is_ask" "is_ask" (defArgs s_is_ask) (defBody s_is_ask) (defScope s_is_ask) .none kV22 dc22 pm22 an22 cd22 ct22), sl22⟩) (c22 : PySem.W.codeIn K cd22 "is_ask" = true) (k22 : PySem.W.keepIn K (.ref f22) = true)
    (a23 : PySem.W.nsIn K mainGlobals "are_asks" = some (some (.ref f23))) (l23 : K.lookup f23 = some ⟨oc23, od23, .func (PySem.W.fnOf "are_asks" "are_asks" (defArgs s_are_asks) (defBody s_are_asks) (defScope s_are_asks) .none kV23 dc23 pm23 an23 cd23 ct23), sl23⟩) (c23 : PySem.W.codeIn K cd23 "are_asks" = true) (k23 : PySem.W.keepIn K (.ref f23) = true)
    (a24 : PySem.W.nsIn K mainGlobals "want_asks" = some (some (.ref f24))) (l24 : K.lookup f24 = some ⟨oc24, od24, .func (PySem.W.fnOf "want_asks" "want_asks" (defArgs s_want_asks) (defBody s_want_asks) (defScope s_want_asks) .none kV24 dc24 pm24 an24 cd24 ct24), sl24⟩) (c24 : PySem.W.codeIn K cd24 "want_asks" = true) (k24 : PySem.W.keepIn K (.ref f24) = true)
    (a25 : PySem.W.nsIn K mainGlobals "is_setting_row" = some (some (.ref f25))) (l25 : K.lookup f25 = some ⟨oc25, od25, .func (PySem.W.fnOf "is_setting_row" "is_setting_row" (defArgs s_is_setting_row) (defBody s_is_setting_row) (defScope s_is_setting_row) .none kV25 dc25 pm25 an25 cd25 ct25), sl25⟩) (c25 : PySem.W.codeIn K cd25 "is_setting_row" = true) (k25 : PySem.W.keepIn K (.ref f25) = true)
    (a26 : PySem.W.nsIn K mainGlobals "is_settings" = some (some (.ref f26))) (l26 : K.lookup f26 = some ⟨oc26, od26, .func (PySem.W.fnOf "is_settings" "is_settings" (defArgs s_is_settings) (defBody s_is_settings) (defScope s_is_settings) .none kV26 dc26 pm26 an26 cd26 ct26), sl26⟩) (c26 : PySem.W.codeIn K cd26 "is_settings" = true) (k26 : PySem.W.keepIn K (.ref f26) = true)
    (a27 : PySem.W.nsIn K mainGlobals "want_settings" = some (some (.ref f27))) (l27 : K.lookup f27 = some ⟨oc27, od27, .func (PySem.W.fnOf "want_settings" "want_settings" (defArgs s_want_settings) (defBody s_want_settings) (defScope s_want_settings) .none kV27 dc27 pm27 an27 cd27 ct27), sl27⟩) (c27 : PySem.W.codeIn K cd27 "want_settings" = true) (k27 : PySem.W.keepIn K (.ref f27) = true)
    (a28 : PySem.W.nsIn K mainGlobals "plain_rows" = some (some (.ref f28))) (l28 : K.lookup f28 = some ⟨oc28, od28, .func (PySem.W.fnOf "plain_rows" "plain_rows" (defArgs s_plain_rows) (defBody s_plain_rows) (defScope s_plain_rows) .none kV28 dc28 pm28 an28 cd28 ct28), sl28⟩) (c28 : PySem.W.codeIn K cd28 "plain_rows" = true) (k28 : PySem.W.keepIn K (.ref f28) = true)
    (a29 : PySem.W.nsIn K mainGlobals "as_settings" = some (some (.ref f29))) (l29 : K.lookup f29 = some ⟨oc29, od29, .func (PySem.W.fnOf "as_settings" "as_settings" (defArgs s_as_settings) (defBody s_as_settings) (defScope s_as_settings) .none kV29 dc29 pm29 an29 cd29 ct29), sl29⟩) (c29 : PySem.W.codeIn K cd29 "as_settings" = true) (k29 : PySem.W.keepIn K (.ref f29) = true)
    (a30 : PySem.W.nsIn K mainGlobals "straight" = some (some (.ref f30))) (l30 : K.lookup f30 = some ⟨oc30, od30, .func (PySem.W.fnOf "straight" "straight" (defArgs s_straight) (defBody s_straight) (defScope s_straight) .none kV30 dc30 pm30 an30 cd30 ct30), sl30⟩) (c30 : PySem.W.codeIn K cd30 "straight" = true) (k30 : PySem.W.keepIn K (.ref f30) = true)
    (a31 : PySem.W.nsIn K mainGlobals "led_from" = some (some (.ref f31))) (l31 : K.lookup f31 = some ⟨oc31, od31, .func (PySem.W.fnOf "led_from" "led_from" (defArgs s_led_from) (defBody s_led_from) (defScope s_led_from) .none kV31 dc31 pm31 an31 cd31 ct31), sl31⟩) (c31 : PySem.W.codeIn K cd31 "led_from" = true) (k31 : PySem.W.keepIn K (.ref f31) = true)
    (a32 : PySem.W.nsIn K mainGlobals "led" = some (some (.ref f32))) (l32 : K.lookup f32 = some ⟨oc32, od32, .func (PySem.W.fnOf "led" "led" (defArgs s_led) (defBody s_led) (defScope s_led) .none kV32 dc32 pm32 an32 cd32 ct32), sl32⟩) (c32 : PySem.W.codeIn K cd32 "led" = true) (k32 : PySem.W.keepIn K (.ref f32) = true)
    (a33 : PySem.W.nsIn K mainGlobals "want_sides" = some (some (.ref f33))) (l33 : K.lookup f33 = some ⟨oc33, od33, .func (PySem.W.fnOf "want_sides" "want_sides" (defArgs s_want_sides) (defBody s_want_sides) (defScope s_want_sides) .none kV33 dc33 pm33 an33 cd33 ct33), sl33⟩) (c33 : PySem.W.codeIn K cd33 "want_sides" = true) (k33 : PySem.W.keepIn K (.ref f33) = true)
    (a34 : PySem.W.nsIn K mainGlobals "settings_by" = some (some (.ref f34))) (l34 : K.lookup f34 = some ⟨oc34, od34, .func (PySem.W.fnOf "settings_by" "settings_by" (defArgs s_settings_by) (defBody s_settings_by) (defScope s_settings_by) .none kV34 dc34 pm34 an34 cd34 ct34), sl34⟩) (c34 : PySem.W.codeIn K cd34 "settings_by" = true) (k34 : PySem.W.keepIn K (.ref f34) = true)
    (a35 : PySem.W.nsIn K mainGlobals "settings_for" = some (some (.ref f35))) (l35 : K.lookup f35 = some ⟨oc35, od35, .func (PySem.W.fnOf "settings_for" "settings_for" (defArgs s_settings_for) (defBody s_settings_for) (defScope s_settings_for) .none kV35 dc35 pm35 an35 cd35 ct35), sl35⟩) (c35 : PySem.W.codeIn K cd35 "settings_for" = true) (k35 : PySem.W.keepIn K (.ref f35) = true)
    (a36 : PySem.W.nsIn K mainGlobals "want_round" = some (some (.ref f36))) (l36 : K.lookup f36 = some ⟨oc36, od36, .func (PySem.W.fnOf "want_round" "want_round" (defArgs s_want_round) (defBody s_want_round) (defScope s_want_round) .none kV36 dc36 pm36 an36 cd36 ct36), sl36⟩) (c36 : PySem.W.codeIn K cd36 "want_round" = true) (k36 : PySem.W.keepIn K (.ref f36) = true)
    (a37 : PySem.W.nsIn K mainGlobals "side_of_box" = some (some (.ref f37))) (l37 : K.lookup f37 = some ⟨oc37, od37, .func (PySem.W.fnOf "side_of_box" "side_of_box" (defArgs s_side_of_box) (defBody s_side_of_box) (defScope s_side_of_box) .none kV37 dc37 pm37 an37 cd37 ct37), sl37⟩) (c37 : PySem.W.codeIn K cd37 "side_of_box" = true) (k37 : PySem.W.keepIn K (.ref f37) = true)
    (a38 : PySem.W.nsIn K mainGlobals "line_of" = some (some (.ref f38))) (l38 : K.lookup f38 = some ⟨oc38, od38, .func (PySem.W.fnOf "line_of" "line_of" (defArgs s_line_of) (defBody s_line_of) (defScope s_line_of) .none kV38 dc38 pm38 an38 cd38 ct38), sl38⟩) (c38 : PySem.W.codeIn K cd38 "line_of" = true) (k38 : PySem.W.keepIn K (.ref f38) = true)
    (a39 : PySem.W.nsIn K mainGlobals "comes_first" = some (some (.ref f39))) (l39 : K.lookup f39 = some ⟨oc39, od39, .func (PySem.W.fnOf "comes_first" "comes_first" (defArgs s_comes_first) (defBody s_comes_first) (defScope s_comes_first) .none kV39 dc39 pm39 an39 cd39 ct39), sl39⟩) (c39 : PySem.W.codeIn K cd39 "comes_first" = true) (k39 : PySem.W.keepIn K (.ref f39) = true)
    (a40 : PySem.W.nsIn K mainGlobals "in_turn" = some (some (.ref f40))) (l40 : K.lookup f40 = some ⟨oc40, od40, .func (PySem.W.fnOf "in_turn" "in_turn" (defArgs s_in_turn) (defBody s_in_turn) (defScope s_in_turn) .none kV40 dc40 pm40 an40 cd40 ct40), sl40⟩) (c40 : PySem.W.codeIn K cd40 "in_turn" = true) (k40 : PySem.W.keepIn K (.ref f40) = true)
    (a41 : PySem.W.nsIn K mainGlobals "joined" = some (some (.ref f41))) (l41 : K.lookup f41 = some ⟨oc41, od41, .func (PySem.W.fnOf "joined" "joined" (defArgs s_joined) (defBody s_joined) (defScope s_joined) .none kV41 dc41 pm41 an41 cd41 ct41), sl41⟩) (c41 : PySem.W.codeIn K cd41 "joined" = true) (k41 : PySem.W.keepIn K (.ref f41) = true)
    (a42 : PySem.W.nsIn K mainGlobals "behind_stage" = some (some (.ref f42))) (l42 : K.lookup f42 = some ⟨oc42, od42, .func (PySem.W.fnOf "behind_stage" "behind_stage" (defArgs s_behind_stage) (defBody s_behind_stage) (defScope s_behind_stage) .none kV42 dc42 pm42 an42 cd42 ct42), sl42⟩) (c42 : PySem.W.codeIn K cd42 "behind_stage" = true) (k42 : PySem.W.keepIn K (.ref f42) = true)
    (a43 : PySem.W.nsIn K mainGlobals "put_in" = some (some (.ref f43))) (l43 : K.lookup f43 = some ⟨oc43, od43, .func (PySem.W.fnOf "put_in" "put_in" (defArgs s_put_in) (defBody s_put_in) (defScope s_put_in) .none kV43 dc43 pm43 an43 cd43 ct43), sl43⟩) (c43 : PySem.W.codeIn K cd43 "put_in" = true) (k43 : PySem.W.keepIn K (.ref f43) = true)
    (a44 : PySem.W.nsIn K mainGlobals "gone" = some (some (.ref f44))) (l44 : K.lookup f44 = some ⟨oc44, od44, .func (PySem.W.fnOf "gone" "gone" (defArgs s_gone) (defBody s_gone) (defScope s_gone) .none kV44 dc44 pm44 an44 cd44 ct44), sl44⟩) (c44 : PySem.W.codeIn K cd44 "gone" = true) (k44 : PySem.W.keepIn K (.ref f44) = true)
    (a45 : PySem.W.nsIn K mainGlobals "load_row" = some (some (.ref f45))) (l45 : K.lookup f45 = some ⟨oc45, od45, .func (PySem.W.fnOf "load_row" "load_row" (defArgs s_load_row) (defBody s_load_row) (defScope s_load_row) .none kV45 dc45 pm45 an45 cd45 ct45), sl45⟩) (c45 : PySem.W.codeIn K cd45 "load_row" = true) (k45 : PySem.W.keepIn K (.ref f45) = true)
    (a46 : PySem.W.nsIn K mainGlobals "joined_loads" = some (some (.ref f46))) (l46 : K.lookup f46 = some ⟨oc46, od46, .func (PySem.W.fnOf "joined_loads" "joined_loads" (defArgs s_joined_loads) (defBody s_joined_loads) (defScope s_joined_loads) .none kV46 dc46 pm46 an46 cd46 ct46), sl46⟩) (c46 : PySem.W.codeIn K cd46 "joined_loads" = true) (k46 : PySem.W.keepIn K (.ref f46) = true)
    (a47 : PySem.W.nsIn K mainGlobals "plain_loads" = some (some (.ref f47))) (l47 : K.lookup f47 = some ⟨oc47, od47, .func (PySem.W.fnOf "plain_loads" "plain_loads" (defArgs s_plain_loads) (defBody s_plain_loads) (defScope s_plain_loads) .none kV47 dc47 pm47 an47 cd47 ct47), sl47⟩) (c47 : PySem.W.codeIn K cd47 "plain_loads" = true) (k47 : PySem.W.keepIn K (.ref f47) = true)
    (a48 : PySem.W.nsIn K mainGlobals "_law_rich" = some (some (.ref f48))) (l48 : K.lookup f48 = some ⟨oc48, od48, .func (PySem.W.fnOf "_law_rich" "_law_rich" (defArgs s__law_rich) (defBody s__law_rich) (defScope s__law_rich) .none kV48 dc48 pm48 an48 cd48 ct48), sl48⟩) (c48 : PySem.W.codeIn K cd48 "_law_rich" = true) (k48 : PySem.W.keepIn K (.ref f48) = true)
    (a49 : PySem.W.nsIn K mainGlobals "_law_purse" = some (some (.ref f49))) (l49 : K.lookup f49 = some ⟨oc49, od49, .func (PySem.W.fnOf "_law_purse" "_law_purse" (defArgs s__law_purse) (defBody s__law_purse) (defScope s__law_purse) .none kV49 dc49 pm49 an49 cd49 ct49), sl49⟩) (c49 : PySem.W.codeIn K cd49 "_law_purse" = true) (k49 : PySem.W.keepIn K (.ref f49) = true)
    (a50 : PySem.W.nsIn K mainGlobals "_law_take" = some (some (.ref f50))) (l50 : K.lookup f50 = some ⟨oc50, od50, .func (PySem.W.fnOf "_law_take" "_law_take" (defArgs s__law_take) (defBody s__law_take) (defScope s__law_take) .none kV50 dc50 pm50 an50 cd50 ct50), sl50⟩) (c50 : PySem.W.codeIn K cd50 "_law_take" = true) (k50 : PySem.W.keepIn K (.ref f50) = true)
    (a51 : PySem.W.nsIn K mainGlobals "_law_settings" = some (some (.ref f51))) (l51 : K.lookup f51 = some ⟨oc51, od51, .func (PySem.W.fnOf "_law_settings" "_law_settings" (defArgs s__law_settings) (defBody s__law_settings) (defScope s__law_settings) .none kV51 dc51 pm51 an51 cd51 ct51), sl51⟩) (c51 : PySem.W.codeIn K cd51 "_law_settings" = true) (k51 : PySem.W.keepIn K (.ref f51) = true)
    (a52 : PySem.W.nsIn K mainGlobals "_law_sides" = some (some (.ref f52))) (l52 : K.lookup f52 = some ⟨oc52, od52, .func (PySem.W.fnOf "_law_sides" "_law_sides" (defArgs s__law_sides) (defBody s__law_sides) (defScope s__law_sides) .none kV52 dc52 pm52 an52 cd52 ct52), sl52⟩) (c52 : PySem.W.codeIn K cd52 "_law_sides" = true) (k52 : PySem.W.keepIn K (.ref f52) = true)
    (a53 : PySem.W.nsIn K mainGlobals "_law_boxes" = some (some (.ref f53))) (l53 : K.lookup f53 = some ⟨oc53, od53, .func (PySem.W.fnOf "_law_boxes" "_law_boxes" (defArgs s__law_boxes) (defBody s__law_boxes) (defScope s__law_boxes) .none kV53 dc53 pm53 an53 cd53 ct53), sl53⟩) (c53 : PySem.W.codeIn K cd53 "_law_boxes" = true) (k53 : PySem.W.keepIn K (.ref f53) = true)
    (a54 : PySem.W.nsIn K mainGlobals "_law_mixed" = some (some (.ref f54))) (l54 : K.lookup f54 = some ⟨oc54, od54, .func (PySem.W.fnOf "_law_mixed" "_law_mixed" (defArgs s__law_mixed) (defBody s__law_mixed) (defScope s__law_mixed) .none kV54 dc54 pm54 an54 cd54 ct54), sl54⟩) (c54 : PySem.W.codeIn K cd54 "_law_mixed" = true) (k54 : PySem.W.keepIn K (.ref f54) = true)
    (a55 : PySem.W.nsIn K mainGlobals "_law_deed" = some (some (.ref f55))) (l55 : K.lookup f55 = some ⟨oc55, od55, .func (PySem.W.fnOf "_law_deed" "_law_deed" (defArgs s__law_deed) (defBody s__law_deed) (defScope s__law_deed) .none kV55 dc55 pm55 an55 cd55 ct55), sl55⟩) (c55 : PySem.W.codeIn K cd55 "_law_deed" = true) (k55 : PySem.W.keepIn K (.ref f55) = true)
    (a56 : PySem.W.nsIn K mainGlobals "_law_due" = some (some (.ref f56))) (l56 : K.lookup f56 = some ⟨oc56, od56, .func (PySem.W.fnOf "_law_due" "_law_due" (defArgs s__law_due) (defBody s__law_due) (defScope s__law_due) .none kV56 dc56 pm56 an56 cd56 ct56), sl56⟩) (c56 : PySem.W.codeIn K cd56 "_law_due" = true) (k56 : PySem.W.keepIn K (.ref f56) = true)
    (a57 : PySem.W.nsIn K mainGlobals "_law_are_rows" = some (some (.ref f57))) (l57 : K.lookup f57 = some ⟨oc57, od57, .func (PySem.W.fnOf "_law_are_rows" "_law_are_rows" (defArgs s__law_are_rows) (defBody s__law_are_rows) (defScope s__law_are_rows) .none kV57 dc57 pm57 an57 cd57 ct57), sl57⟩) (c57 : PySem.W.codeIn K cd57 "_law_are_rows" = true) (k57 : PySem.W.keepIn K (.ref f57) = true)
    (a58 : PySem.W.nsIn K mainGlobals "_law_first_full" = some (some (.ref f58))) (l58 : K.lookup f58 = some ⟨oc58, od58, .func (PySem.W.fnOf "_law_first_full" "_law_first_full" (defArgs s__law_first_full) (defBody s__law_first_full) (defScope s__law_first_full) .none kV58 dc58 pm58 an58 cd58 ct58), sl58⟩) (c58 : PySem.W.codeIn K cd58 "_law_first_full" = true) (k58 : PySem.W.keepIn K (.ref f58) = true)
    (a59 : PySem.W.nsIn K mainGlobals "_law_unlike_boxes" = some (some (.ref f59))) (l59 : K.lookup f59 = some ⟨oc59, od59, .func (PySem.W.fnOf "_law_unlike_boxes" "_law_unlike_boxes" (defArgs s__law_unlike_boxes) (defBody s__law_unlike_boxes) (defScope s__law_unlike_boxes) .none kV59 dc59 pm59 an59 cd59 ct59), sl59⟩) (c59 : PySem.W.codeIn K cd59 "_law_unlike_boxes" = true) (k59 : PySem.W.keepIn K (.ref f59) = true)
    (a60 : PySem.W.nsIn K mainGlobals "_law_joined_right" = some (some (.ref f60))) (l60 : K.lookup f60 = some ⟨oc60, od60, .func (PySem.W.fnOf "_law_joined_right" "_law_joined_right" (defArgs s__law_joined_right) (defBody s__law_joined_right) (defScope s__law_joined_right) .none kV60 dc60 pm60 an60 cd60 ct60), sl60⟩) (c60 : PySem.W.codeIn K cd60 "_law_joined_right" = true) (k60 : PySem.W.keepIn K (.ref f60) = true)
    (a61 : PySem.W.nsIn K mainGlobals "_law_loads_right" = some (some (.ref f61))) (l61 : K.lookup f61 = some ⟨oc61, od61, .func (PySem.W.fnOf "_law_loads_right" "_law_loads_right" (defArgs s__law_loads_right) (defBody s__law_loads_right) (defScope s__law_loads_right) .none kV61 dc61 pm61 an61 cd61 ct61), sl61⟩) (c61 : PySem.W.codeIn K cd61 "_law_loads_right" = true) (k61 : PySem.W.keepIn K (.ref f61) = true)
    (a62 : PySem.W.nsIn K mainGlobals "law" = some (some (.ref f62))) (l62 : K.lookup f62 = some ⟨oc62, od62, .func (PySem.W.fnOf "law" "law" (defArgs s_law) (defBody s_law) (defScope s_law) .none kV62 dc62 pm62 an62 cd62 ct62), sl62⟩) (c62 : PySem.W.codeIn K cd62 "law" = true) (k62 : PySem.W.keepIn K (.ref f62) = true)
    (a63 : PySem.W.findIn K (.ref C0) "__init__" = some (some (.ref f63))) (i63 : PySem.W.isFn K (.ref f63) = true) (l63 : K.lookup f63 = some ⟨oc63, od63, .func (PySem.W.fnOf "__init__" "Carried.__init__" (defArgs s_Carried____init__) (defBody s_Carried____init__) (defScope s_Carried____init__) .none kV63 dc63 pm63 an63 cd63 ct63), sl63⟩) (c63 : PySem.W.codeIn K cd63 "Carried.__init__" = true) (k63 : PySem.W.keepIn K (.ref f63) = true)
    (z0 : PySem.W.nsIn K mainGlobals "abs" = some none)
    (z1 : PySem.W.nsIn K mainGlobals "all" = some none)
    (z2 : PySem.W.nsIn K mainGlobals "any" = some none)
    (z3 : PySem.W.nsIn K mainGlobals "bool" = some none)
    (z4 : PySem.W.nsIn K mainGlobals "enumerate" = some none)
    (z5 : PySem.W.nsIn K mainGlobals "int" = some none)
    (z6 : PySem.W.nsIn K mainGlobals "isinstance" = some none)
    (z7 : PySem.W.nsIn K mainGlobals "len" = some none)
    (z8 : PySem.W.nsIn K mainGlobals "list" = some none)
    (z9 : PySem.W.nsIn K mainGlobals "max" = some none)
    (z10 : PySem.W.nsIn K mainGlobals "min" = some none)
    (z11 : PySem.W.nsIn K mainGlobals "range" = some none)
    (z12 : PySem.W.nsIn K mainGlobals "set" = some none)
    (z13 : PySem.W.nsIn K mainGlobals "tuple" = some none)
    {tc0 : Tok} (cst0 : PySem.W.nsIn K mainGlobals "MOST_BOXES" = some (some (.int (16) tc0)))
    {tc1 : Tok} (cst1 : PySem.W.nsIn K mainGlobals "HANDS" = some (some (.int (16) tc1)))
    : AllD K mg := by
  exact ⟨Df.of l1 c1 k1 (PySem.W.mg_of X G a1) (fun _ _ _ _ _ _ us hl => match us, hl with | [_], _ => rfl), Df.of l2 c2 k2 (PySem.W.mg_of X G a2) (fun _ _ _ _ _ _ us hl => match us, hl with | [_, _, _], _ => rfl), Df.of l3 c3 k3 (PySem.W.mg_of X G a3) (fun _ _ _ _ _ _ us hl => match us, hl with | [_, _], _ => rfl), Dfd.of (n := 1) l4 c4 k4 (PySem.W.mg_of X G a4) dl4 rfl (.cons ⟨_, rfl⟩ .nil) rfl (fun us hl => match us, hl with | [_], _ => ⟨_, rfl, rfl⟩), Df.of l5 c5 k5 (PySem.W.mg_of X G a5) (fun _ _ _ _ _ _ us hl => match us, hl with | [_, _], _ => rfl), Df.of l6 c6 k6 (PySem.W.mg_of X G a6) (fun _ _ _ _ _ _ us hl => match us, hl with | [_, _], _ => rfl), Df.of l7 c7 k7 (PySem.W.mg_of X G a7) (fun _ _ _ _ _ _ us hl => match us, hl with | [_, _], _ => rfl), Df.of l8 c8 k8 (PySem.W.mg_of X G a8) (fun _ _ _ _ _ _ us hl => match us, hl with | [_, _, _, _], _ => rfl), Df.of l9 c9 k9 (PySem.W.mg_of X G a9) (fun _ _ _ _ _ _ us hl => match us, hl with | [_, _, _], _ => rfl), Df.of l10 c10 k10 (PySem.W.mg_of X G a10) (fun _ _ _ _ _ _ us hl => match us, hl with | [_, _, _], _ => rfl), Df.of l11 c11 k11 (PySem.W.mg_of X G a11) (fun _ _ _ _ _ _ us hl => match us, hl with | [_, _, _], _ => rfl), Df.of l12 c12 k12 (PySem.W.mg_of X G a12) (fun _ _ _ _ _ _ us hl => match us, hl with | [_, _], _ => rfl), Df.of l13 c13 k13 (PySem.W.mg_of X G a13) (fun _ _ _ _ _ _ us hl => match us, hl with | [_, _], _ => rfl), Df.of l14 c14 k14 (PySem.W.mg_of X G a14) (fun _ _ _ _ _ _ us hl => match us, hl with | [_, _], _ => rfl), Df.of l15 c15 k15 (PySem.W.mg_of X G a15) (fun _ _ _ _ _ _ us hl => match us, hl with | [_], _ => rfl), Df.of l16 c16 k16 (PySem.W.mg_of X G a16) (fun _ _ _ _ _ _ us hl => match us, hl with | [_], _ => rfl), Df.of l17 c17 k17 (PySem.W.mg_of X G a17) (fun _ _ _ _ _ _ us hl => match us, hl with | [_, _], _ => rfl), Df.of l18 c18 k18 (PySem.W.mg_of X G a18) (fun _ _ _ _ _ _ us hl => match us, hl with | [_, _, _], _ => rfl), Df.of l19 c19 k19 (PySem.W.mg_of X G a19) (fun _ _ _ _ _ _ us hl => match us, hl with | [_, _], _ => rfl), Df.of l20 c20 k20 (PySem.W.mg_of X G a20) (fun _ _ _ _ _ _ us hl => match us, hl with | [_], _ => rfl), Df.of l21 c21 k21 (PySem.W.mg_of X G a21) (fun _ _ _ _ _ _ us hl => match us, hl with | [_], _ => rfl), Df.of l22 c22 k22 (PySem.W.mg_of X G a22) (fun _ _ _ _ _ _ us hl => match us, hl with | [_, _], _ => rfl), Df.of l23 c23 k23 (PySem.W.mg_of X G a23) (fun _ _ _ _ _ _ us hl => match us, hl with | [_, _], _ => rfl), Df.of l24 c24 k24 (PySem.W.mg_of X G a24) (fun _ _ _ _ _ _ us hl => match us, hl with | [_, _], _ => rfl), Df.of l25 c25 k25 (PySem.W.mg_of X G a25) (fun _ _ _ _ _ _ us hl => match us, hl with | [_, _], _ => rfl), Df.of l26 c26 k26 (PySem.W.mg_of X G a26) (fun _ _ _ _ _ _ us hl => match us, hl with | [_, _], _ => rfl), Df.of l27 c27 k27 (PySem.W.mg_of X G a27) (fun _ _ _ _ _ _ us hl => match us, hl with | [_, _], _ => rfl), Df.of l28 c28 k28 (PySem.W.mg_of X G a28) (fun _ _ _ _ _ _ us hl => match us, hl with | [_], _ => rfl), Df.of l29 c29 k29 (PySem.W.mg_of X G a29) (fun _ _ _ _ _ _ us hl => match us, hl with | [_], _ => rfl), Df.of l30 c30 k30 (PySem.W.mg_of X G a30) (fun _ _ _ _ _ _ us hl => match us, hl with | [_], _ => rfl), Df.of l31 c31 k31 (PySem.W.mg_of X G a31) (fun _ _ _ _ _ _ us hl => match us, hl with | [_, _, _], _ => rfl), Df.of l32 c32 k32 (PySem.W.mg_of X G a32) (fun _ _ _ _ _ _ us hl => match us, hl with | [_, _], _ => rfl), Df.of l33 c33 k33 (PySem.W.mg_of X G a33) (fun _ _ _ _ _ _ us hl => match us, hl with | [_, _], _ => rfl), Df.of l34 c34 k34 (PySem.W.mg_of X G a34) (fun _ _ _ _ _ _ us hl => match us, hl with | [_, _], _ => rfl), Df.of l35 c35 k35 (PySem.W.mg_of X G a35) (fun _ _ _ _ _ _ us hl => match us, hl with | [_, _], _ => rfl), Df.of l36 c36 k36 (PySem.W.mg_of X G a36) (fun _ _ _ _ _ _ us hl => match us, hl with | [_, _, _], _ => rfl), Df.of l37 c37 k37 (PySem.W.mg_of X G a37) (fun _ _ _ _ _ _ us hl => match us, hl with | [_, _], _ => rfl), Df.of l38 c38 k38 (PySem.W.mg_of X G a38) (fun _ _ _ _ _ _ us hl => match us, hl with | [_, _, _], _ => rfl), Df.of l39 c39 k39 (PySem.W.mg_of X G a39) (fun _ _ _ _ _ _ us hl => match us, hl with | [_, _, _, _, _], _ => rfl), Df.of l40 c40 k40 (PySem.W.mg_of X G a40) (fun _ _ _ _ _ _ us hl => match us, hl with | [_, _, _, _], _ => rfl), Df.of l41 c41 k41 (PySem.W.mg_of X G a41) (fun _ _ _ _ _ _ us hl => match us, hl with | [_, _], _ => rfl), Df.of l42 c42 k42 (PySem.W.mg_of X G a42) (fun _ _ _ _ _ _ us hl => match us, hl with | [_, _, _, _], _ => rfl), Df.of l43 c43 k43 (PySem.W.mg_of X G a43) (fun _ _ _ _ _ _ us hl => match us, hl with | [_], _ => rfl), Df.of l44 c44 k44 (PySem.W.mg_of X G a44) (fun _ _ _ _ _ _ us hl => match us, hl with | [_, _, _], _ => rfl), Df.of l45 c45 k45 (PySem.W.mg_of X G a45) (fun _ _ _ _ _ _ us hl => match us, hl with | [_, _], _ => rfl), Df.of l46 c46 k46 (PySem.W.mg_of X G a46) (fun _ _ _ _ _ _ us hl => match us, hl with | [_, _, _], _ => rfl), Df.of l47 c47 k47 (PySem.W.mg_of X G a47) (fun _ _ _ _ _ _ us hl => match us, hl with | [_, _, _], _ => rfl), Df.of l48 c48 k48 (PySem.W.mg_of X G a48) (fun _ _ _ _ _ _ us hl => match us, hl with | [_, _], _ => rfl), Df.of l49 c49 k49 (PySem.W.mg_of X G a49) (fun _ _ _ _ _ _ us hl => match us, hl with | [_, _], _ => rfl), Df.of l50 c50 k50 (PySem.W.mg_of X G a50) (fun _ _ _ _ _ _ us hl => match us, hl with | [_, _], _ => rfl), Df.of l51 c51 k51 (PySem.W.mg_of X G a51) (fun _ _ _ _ _ _ us hl => match us, hl with | [_, _], _ => rfl), Df.of l52 c52 k52 (PySem.W.mg_of X G a52) (fun _ _ _ _ _ _ us hl => match us, hl with | [_, _], _ => rfl), Df.of l53 c53 k53 (PySem.W.mg_of X G a53) (fun _ _ _ _ _ _ us hl => match us, hl with | [_, _], _ => rfl), Df.of l54 c54 k54 (PySem.W.mg_of X G a54) (fun _ _ _ _ _ _ us hl => match us, hl with | [_, _], _ => rfl), Df.of l55 c55 k55 (PySem.W.mg_of X G a55) (fun _ _ _ _ _ _ us hl => match us, hl with | [_], _ => rfl), Df.of l56 c56 k56 (PySem.W.mg_of X G a56) (fun _ _ _ _ _ _ us hl => match us, hl with | [_, _], _ => rfl), Df.of l57 c57 k57 (PySem.W.mg_of X G a57) (fun _ _ _ _ _ _ us hl => match us, hl with | [_, _], _ => rfl), Df.of l58 c58 k58 (PySem.W.mg_of X G a58) (fun _ _ _ _ _ _ us hl => match us, hl with | [_], _ => rfl), Df.of l59 c59 k59 (PySem.W.mg_of X G a59) (fun _ _ _ _ _ _ us hl => match us, hl with | [_, _], _ => rfl), Df.of l60 c60 k60 (PySem.W.mg_of X G a60) (fun _ _ _ _ _ _ us hl => match us, hl with | [_, _, _], _ => rfl), Df.of l61 c61 k61 (PySem.W.mg_of X G a61) (fun _ _ _ _ _ _ us hl => match us, hl with | [_, _, _], _ => rfl), Df.of l62 c62 k62 (PySem.W.mg_of X G a62) (fun _ _ _ _ _ _ us hl => match us, hl with | [_], _ => rfl), DfI.of (PySem.W.mg_of X G aC0) a63 i63 l63 c63 k63 mk0 kc0 (fun _ _ _ _ _ _ us hl => match us, hl with | [_, _, _, _, _], _ => rfl), ⟨PySem.W.mg_none_of X G z0, PySem.W.mg_none_of X G z1, PySem.W.mg_none_of X G z2, PySem.W.mg_none_of X G z3, PySem.W.mg_none_of X G z4, PySem.W.mg_none_of X G z5, PySem.W.mg_none_of X G z6, PySem.W.mg_none_of X G z7, PySem.W.mg_none_of X G z8, PySem.W.mg_none_of X G z9, PySem.W.mg_none_of X G z10, PySem.W.mg_none_of X G z11, PySem.W.mg_none_of X G z12, PySem.W.mg_none_of X G z13, ⟨_, PySem.W.mg_of X G cst0⟩, ⟨_, PySem.W.mg_of X G cst1⟩, ClsF.of (PySem.W.mg_of X G aC0) ⟨pg0, hd0, po0, sa0⟩ (by intro f hf; simp only [List.mem_cons, List.not_mem_nil, or_false] at hf; rcases hf with rfl | rfl | rfl | rfl <;> assumption)⟩⟩

theorem law_fd {P : Program} {w : World} {K : PySem.W.Frag} {mg : Str → Option Value} {fa : Addr} (A : AllD K mg) (hfa : mg "law" = some (.ref fa)) :
    ∃ fd : FuncData, (∀ (s : Shared) (v : Value), BindsTo s fd ⟨[v], []⟩ [("_law_script", v)]) ∧ ∀ base : Heap, K.In base → base.Ns mainGlobals mg → FnG P w K mg base CX0 12 fa fd ["_law_script"] (spLaw K) := by
  obtain ⟨f, fd, F, m, b⟩ := A.d_law.ex
  have e := hfa.symm.trans m
  cases e
  refine ⟨fd, fun s v => by obtain ⟨oc, od, kV, doc, pm, an, cdv, ct, osl, rfl, lk, hcd⟩ := F.ex; exact .of_eq rfl, fun base _ _ => ?_⟩
  have B := A.bl
  have D_is_whole : Dn P w K mg base 1 "is_whole" ["thing"] spIsWhole := k_is_whole B A.d_is_whole 
  have D_is_row_of : Dn P w K mg base 1 "is_row_of" ["thing", "many"] (spIsRow K) := k_is_row_of B A.d_is_row_of 
  have D_is_end : Dn P w K mg base 2 "is_end" ["thing"] spIsEnd := k_is_end B A.d_is_end D_is_whole
  have D_is_deed : Dn P w K mg base 3 "is_deed" ["thing"] (spIsDeed K) := k_is_deed B A.d_is_deed D_is_whole D_is_row_of D_is_end
  have D_put_through : Dn P w K mg base 1 "put_through" ["deed", "value"] (spPut K) := k_put_through B A.d_put_through 
  have D_whole_deed : Dn P w K mg base 1 "whole_deed" ["add", "low", "high"] spWholeDeed := k_whole_deed B A.d_whole_deed 
  have D_one_behind : Dn P w K mg base 2 "one_behind" ["one", "other"] (spBehind K) := k_one_behind B A.d_one_behind D_put_through D_whole_deed
  have D_is_board : Dn P w K mg base 2 "is_board" ["thing"] (spIsBoard K) := k_is_board B A.d_is_board D_is_whole
  have D_want_board : Dn P w K mg base 3 "want_board" ["board"] (spWantBoard K) := k_want_board B A.d_want_board D_is_board
  have D_is_ask : Dn P w K mg base 4 "is_ask" ["board", "thing"] (spIsAsk K) := k_is_ask B A.d_is_ask D_is_whole D_is_deed
  have D_are_asks : Dn P w K mg base 5 "are_asks" ["board", "thing"] (spAreAsks K) := k_are_asks B A.d_are_asks D_want_board D_is_ask
  have D_want_asks : Dn P w K mg base 6 "want_asks" ["board", "asks"] (spWantAsks K) := k_want_asks B A.d_want_asks D_are_asks
  have D_is_within : Dn P w K mg base 2 "is_within" ["thing", "least", "most"] spIsWithin := k_is_within B A.d_is_within D_is_whole
  have D_want_net : DnD P w K mg base 3 "want_net" ["k", "deepest"] [.int 4] spWantNet := k_want_net B A.d_want_net D_is_within
  have D_is_line : Dn P w K mg base 2 "is_line" ["k", "thing"] spIsLine := k_is_line B A.d_is_line D_is_whole
  have D_want_hand : Dn P w K mg base 3 "want_hand" ["k", "thing"] spWantLine := k_want_hand B A.d_want_hand D_is_line
  have D_want_side : Dn P w K mg base 3 "want_side" ["k", "thing"] spWantLine := k_want_side B A.d_want_side D_is_line
  have D_line_on_way : Dn P w K mg base 1 "line_on_way" ["k", "hand", "goal", "level"] spLow := k_line_on_way B A.d_line_on_way 
  have D_number_without : Dn P w K mg base 1 "number_without" ["k", "line", "stage"] spNwo := k_number_without B A.d_number_without 
  have D_way : Dn P w K mg base 4 "way" ["k", "hand", "side"] spWay := k_way B A.d_way D_want_net D_want_hand D_want_side D_line_on_way
  have D_want_pairs : Dn P w K mg base 4 "want_pairs" ["k", "pairs"] (spWantPairs K) := k_want_pairs B A.d_want_pairs D_want_hand D_want_side
  have D_shared_line : Dn P w K mg base 2 "shared_line" ["k", "pairs"] (spShared K) := k_shared_line B A.d_shared_line D_line_on_way
  have D_first_shared : Dn P w K mg base 5 "first_shared" ["k", "pairs"] (spShared K) := k_first_shared B A.d_first_shared D_want_net D_want_pairs D_shared_line
  have D_figure_in : Dn P w K mg base 1 "figure_in" ["k", "line", "stage"] spFig := k_figure_in B A.d_figure_in 
  have D_is_setting_row : Dn P w K mg base 2 "is_setting_row" ["k", "thing"] (spIsSR K) := k_is_setting_row B A.d_is_setting_row D_is_whole
  have D_is_settings : Dn P w K mg base 4 "is_settings" ["k", "thing"] (spIsSe K) := k_is_settings B A.d_is_settings D_want_net D_is_setting_row
  have D_want_settings : Dn P w K mg base 5 "want_settings" ["k", "thing"] (spWantSe K) := k_want_settings B A.d_want_settings D_is_settings
  have D_plain_rows : Dn P w K mg base 1 "plain_rows" ["k"] spPlain := k_plain_rows B A.d_plain_rows 
  have D_as_settings : Dn P w K mg base 1 "as_settings" ["rows"] (spAsSe K) := k_as_settings B A.d_as_settings 
  have D_led_from : Dn P w K mg base 2 "led_from" ["k", "settings", "hand"] (spLedF K) := k_led_from B A.d_led_from D_number_without
  have D_led : Dn P w K mg base 6 "led" ["k", "settings"] (spLedP K) := k_led B A.d_led D_want_net D_want_settings D_led_from
  have D_want_sides : Dn P w K mg base 3 "want_sides" ["k", "sides"] (spWantSi K) := k_want_sides B A.d_want_sides D_is_line
  have D_settings_by : Dn P w K mg base 3 "settings_by" ["k", "sides"] (spSetBy K) := k_settings_by B A.d_settings_by D_plain_rows D_figure_in D_number_without D_as_settings
  have D_settings_for : Dn P w K mg base 6 "settings_for" ["k", "sides"] (spSetFor K) := k_settings_for B A.d_settings_for D_want_net D_want_sides D_shared_line D_settings_by
  have D_Carried____init__ : DnI P w K mg base (cAt mg "Carried") 1 ["self", "hand", "box", "deed", "parts"] (spCarry K (cAt mg "Carried")) := k_Carried____init__ B A.d_Carried____init__ 
  have D_side_of_box : Dn P w K mg base 1 "side_of_box" ["k", "box"] spSide := k_side_of_box B A.d_side_of_box 
  have D_line_of : Dn P w K mg base 2 "line_of" ["k", "one", "level"] (spLineOf K (cAt mg "Carried")) := k_line_of B A.d_line_of D_line_on_way D_side_of_box
  have D_comes_first : Dn P w K mg base 2 "comes_first" ["k", "stage", "hand", "goal", "firsts"] (spFirst K) := k_comes_first B A.d_comes_first D_figure_in D_number_without D_line_on_way
  have D_in_turn : Dn P w K mg base 3 "in_turn" ["k", "stage", "row", "firsts"] (spTurn K (cAt mg "Carried")) := k_in_turn B A.d_in_turn D_comes_first D_side_of_box
  have D_joined : Dn P w K mg base 4 "joined" ["one", "other"] (spJoin K (cAt mg "Carried")) := k_joined B A.d_joined D_one_behind D_Carried____init__
  have D_behind_stage : Dn P w K mg base 5 "behind_stage" ["k", "stage", "row", "firsts"] (spBhd K (cAt mg "Carried")) := k_behind_stage B A.d_behind_stage D_in_turn D_line_of D_number_without D_joined
  have D_put_in : Dn P w K mg base 3 "put_in" ["asks"] (spPutIn K (cAt mg "Carried")) := k_put_in B A.d_put_in D_Carried____init__
  have D_gone : Dn P w K mg base 6 "gone" ["k", "asks", "firsts"] (spGone K (cAt mg "Carried")) := k_gone B A.d_gone D_put_in D_behind_stage
  have D_straight : Dn P w K mg base 4 "straight" ["k"] (spStraight K) := k_straight B A.d_straight D_want_net D_plain_rows D_as_settings
  have D_want_round : Dn P w K mg base 7 "want_round" ["k", "board", "asks"] (spWantRound K) := k_want_round B A.d_want_round D_want_net D_want_asks
  have D_load_row : Dn P w K mg base 1 "load_row" ["k", "lines"] (spLoad K) := k_load_row B A.d_load_row 
  have D_plain_loads : Dn P w K mg base 8 "plain_loads" ["k", "board", "asks"] (spPlainL K) := k_plain_loads B A.d_plain_loads D_want_round D_line_on_way D_side_of_box D_load_row
  have D_joined_loads : Dn P w K mg base 9 "joined_loads" ["k", "board", "asks"] (spJoinedL K) := k_joined_loads B A.d_joined_loads D_want_round D_straight D_gone D_line_of D_load_row
  have D__law_rich : Dn P w K mg base 1 "_law_rich" ["_law_cell", "_law_turn"] (spRich K) := k__law_rich B A.d__law_rich 
  have D__law_purse : Dn P w K mg base 1 "_law_purse" ["_law_script", "_law_k"] (spPurse K) := k__law_purse B A.d__law_purse 
  have D__law_take : Dn P w K mg base 2 "_law_take" ["_law_purse_here", "_law_many"] (spTakeP K) := k__law_take B A.d__law_take D__law_rich
  have D__law_settings : Dn P w K mg base 3 "_law_settings" ["_law_purse_here", "_law_k"] (spSettS K) := k__law_settings B A.d__law_settings D__law_take
  have D__law_sides : Dn P w K mg base 8 "_law_sides" ["_law_purse_here", "_law_k"] (spSidesP K) := k__law_sides B A.d__law_sides D__law_take D__law_settings D_led
  have D__law_mixed : Dn P w K mg base 3 "_law_mixed" ["_law_purse_here", "_law_some"] (spMixR K) := k__law_mixed B A.d__law_mixed D__law_take
  have D__law_boxes : Dn P w K mg base 9 "_law_boxes" ["_law_purse_here", "_law_k"] (spBoxes K) := k__law_boxes B A.d__law_boxes D__law_take D__law_sides
  have D__law_deed : Dn P w K mg base 3 "_law_deed" ["_law_purse_here"] (spDeedS K) := k__law_deed B A.d__law_deed D__law_take
  have D__law_due : Dn P w K mg base 5 "_law_due" ["_law_k", "_law_asks"] (spDue99 K) := k__law_due B A.d__law_due D_way
  have D__law_are_rows : Dn P w K mg base 1 "_law_are_rows" ["_law_told", "_law_due_here"] (spRows99 K) := k__law_are_rows B A.d__law_are_rows 
  have D__law_first_full : Dn P w K mg base 1 "_law_first_full" ["_law_loads"] (spFull99 K) := k__law_first_full B A.d__law_first_full 
  have D__law_unlike_boxes : Dn P w K mg base 5 "_law_unlike_boxes" ["_law_k", "_law_asks"] (spUnl99 K) := k__law_unlike_boxes B A.d__law_unlike_boxes D_way
  have D__law_joined_right : Dn P w K mg base 10 "_law_joined_right" ["_law_k", "_law_board", "_law_asks"] (spJR99 K) := k__law_joined_right B A.d__law_joined_right D_joined_loads D__law_are_rows D__law_unlike_boxes
  have D__law_loads_right : Dn P w K mg base 11 "_law_loads_right" ["_law_k", "_law_board", "_law_asks"] (spLR99 K) := k__law_loads_right B A.d__law_loads_right D_joined_loads D_plain_loads D__law_are_rows D__law_due D__law_first_full D_first_shared D__law_joined_right
  exact k_law B F D__law_purse D__law_take D__law_boxes D__law_deed D__law_mixed D__law_first_full D_plain_loads D_settings_for D__law_loads_right

theorem walk {l : PySem.W.OpenLaw} {q : Program} {loose : List Str} {XP : (Str → Option Value) → Heap → Prop} {YP : World → Heap → Prop} {d : DefRec} {K : Params → PySem.W.Frag} (hn : l.most = some 63) (hdf : d.params.defaults = [])
    (hY : ∀ (w : World) (h : Heap), YP w h → (K w.params).In h) (hname : d.name = "law") (F : ∀ (w : World) (mg : Str → Option Value) (h : Heap), (K w.params).In h → h.Ns mainGlobals mg → AllD (K w.params) mg) :
    PySem.W.WalkO q loose XP YP l.row.toRowW d [] (fun f vs => PySem.call f vs) :=
  walk_G (n := 63) (k := 12) (x := "_law_script") (sp := spLaw) hn (by decide) hdf ⟨rfl, by decide, by decide⟩ hY
    (fun w mg fa h KX G hfa => law_fd (F w mg h KX G) (by rw [hname] at hfa; exact hfa)) fun _ _ a ns hl hS => ⟨a, ns, rfl, hS, hl, fun _ => rfl⟩
end Toy
open PySem PySem.W PyProof.Rows
set_option maxRecDepth 100000 in
set_option maxHeartbeats 0 in
theorem PySem.Challenge.cw_joinedasks_k99_whole_loads_and_settings_holds : PySem.Challenge.rw_joinedasks_k99_whole_loads_and_settings.Holds := by
  w_on; o_law; k_head; (case hw => w_witness2)
  k_fill
  refine Toy.walk (l := PySem.Challenge.rw_joinedasks_k99_whole_loads_and_settings) rfl rfl (fun w h Y => PySem.W.kIn_of Y) rfl ?F
  case F =>
    intro w mg h KX G
    refine' Toy.all_mk (w := w) KX G ?aC0 ?pg0 ?hd0 ?po0 ?sa0 ?mk0 ?kc0 ?nf0_0 ?nf0_1 ?nf0_2 ?nf0_3 ?a1 ?l1 ?c1 ?k1 ?a2 ?l2 ?c2 ?k2 ?a3 ?l3 ?c3 ?k3 ?a4 ?l4 ?c4 ?k4 ?dl4 ?a5 ?l5 ?c5 ?k5 ?a6 ?l6 ?c6 ?k6 ?a7 ?l7 ?c7 ?k7 ?a8 ?l8 ?c8 ?k8 ?a9 ?l9 ?c9 ?k9 ?a10 ?l10 ?c10 ?k10 ?a11 ?l11 ?c11 ?k11 ?a12 ?l12 ?c12 ?k12 ?a13 ?l13 ?c13 ?k13 ?a14 ?l14 ?c14 ?k14 ?a15 ?l15 ?c15 ?k15 ?a16 ?l16 ?c16 ?k16 ?a17 ?l17 ?c17 ?k17 ?a18 ?l18 ?c18 ?k18 ?a19 ?l19 ?c19 ?k19 ?a20 ?l20 ?c20 ?k20 ?a21 ?l21 ?c21 ?k21 ?a22 ?l22 ?c22 ?k22 ?a23 ?l23 ?c23 ?k23 ?a24 ?l24 ?c24 ?k24 ?a25 ?l25 ?c25 ?k25 ?a26 ?l26 ?c26 ?k26 ?a27 ?l27 ?c27 ?k27 ?a28 ?l28 ?c28 ?k28 ?a29 ?l29 ?c29 ?k29 ?a30 ?l30 ?c30 ?k30 ?a31 ?l31 ?c31 ?k31 ?a32 ?l32 ?c32 ?k32 ?a33 ?l33 ?c33 ?k33 ?a34 ?l34 ?c34 ?k34 ?a35 ?l35 ?c35 ?k35 ?a36 ?l36 ?c36 ?k36 ?a37 ?l37 ?c37 ?k37 ?a38 ?l38 ?c38 ?k38 ?a39 ?l39 ?c39 ?k39 ?a40 ?l40 ?c40 ?k40 ?a41 ?l41 ?c41 ?k41 ?a42 ?l42 ?c42 ?k42 ?a43 ?l43 ?c43 ?k43 ?a44 ?l44 ?c44 ?k44 ?a45 ?l45 ?c45 ?k45 ?a46 ?l46 ?c46 ?k46 ?a47 ?l47 ?c47 ?k47 ?a48 ?l48 ?c48 ?k48 ?a49 ?l49 ?c49 ?k49 ?a50 ?l50 ?c50 ?k50 ?a51 ?l51 ?c51 ?k51 ?a52 ?l52 ?c52 ?k52 ?a53 ?l53 ?c53 ?k53 ?a54 ?l54 ?c54 ?k54 ?a55 ?l55 ?c55 ?k55 ?a56 ?l56 ?c56 ?k56 ?a57 ?l57 ?c57 ?k57 ?a58 ?l58 ?c58 ?k58 ?a59 ?l59 ?c59 ?k59 ?a60 ?l60 ?c60 ?k60 ?a61 ?l61 ?c61 ?k61 ?a62 ?l62 ?c62 ?k62 ?a63 ?i63 ?l63 ?c63 ?k63 ?z0 ?z1 ?z2 ?z3 ?z4 ?z5 ?z6 ?z7 ?z8 ?z9 ?z10 ?z11 ?z12 ?z13 ?cst0 ?cst1
    (case aC0 => k_is)
    (case pg0 => k_is)
    (case hd0 => k_is)
    (case po0 => k_is)
    (case sa0 => k_is)
    (case mk0 => k_is)
    (case kc0 => k_is)
    (case nf0_0 => k_is)
    (case nf0_1 => k_is)
    (case nf0_2 => k_is)
    (case nf0_3 => k_is)
    (case a1 => k_is)
    (case l1 => k_is)
    (case c1 => k_is)
    (case k1 => k_is)
    (case a2 => k_is)
    (case l2 => k_is)
    (case c2 => k_is)
    (case k2 => k_is)
    (case a3 => k_is)
    (case l3 => k_is)
    (case c3 => k_is)
    (case k3 => k_is)
    (case a4 => k_is)
    (case l4 => k_is)
    (case c4 => k_is)
    (case k4 => k_is)
    (case dl4 => k_is)
    (case a5 => k_is)
    (case l5 => k_is)
    (case c5 => k_is)
    (case k5 => k_is)
    (case a6 => k_is)
    (case l6 => k_is)
    (case c6 => k_is)
    (case k6 => k_is)
    (case a7 => k_is)
    (case l7 => k_is)
    (case c7 => k_is)
    (case k7 => k_is)
    (case a8 => k_is)
    (case l8 => k_is)
    (case c8 => k_is)
    (case k8 => k_is)
    (case a9 => k_is)
    (case l9 => k_is)
    (case c9 => k_is)
    (case k9 => k_is)
    (case a10 => k_is)
    (case l10 => k_is)
    (case c10 => k_is)
    (case k10 => k_is)
    (case a11 => k_is)
    (case l11 => k_is)
    (case c11 => k_is)
    (case k11 => k_is)
    (case a12 => k_is)
    (case l12 => k_is)
    (case c12 => k_is)
    (case k12 => k_is)
    (case a13 => k_is)
    (case l13 => k_is)
    (case c13 => k_is)
    (case k13 => k_is)
    (case a14 => k_is)
    (case l14 => k_is)
    (case c14 => k_is)
    (case k14 => k_is)
    (case a15 => k_is)
    (case l15 => k_is)
    (case c15 => k_is)
    (case k15 => k_is)
    (case a16 => k_is)
    (case l16 => k_is)
    (case c16 => k_is)
    (case k16 => k_is)
    (case a17 => k_is)
    (case l17 => k_is)
    (case c17 => k_is)
    (case k17 => k_is)
    (case a18 => k_is)
    (case l18 => k_is)
    (case c18 => k_is)
    (case k18 => k_is)
    (case a19 => k_is)
    (case l19 => k_is)
    (case c19 => k_is)
    (case k19 => k_is)
    (case a20 => k_is)
    (case l20 => k_is)
    (case c20 => k_is)
    (case k20 => k_is)
    (case a21 => k_is)
    (case l21 => k_is)
    (case c21 => k_is)
    (case k21 => k_is)
    (case a22 => k_is)
    (case l22 => k_is)
    (case c22 => k_is)
    (case k22 => k_is)
    (case a23 => k_is)
    (case l23 => k_is)
    (case c23 => k_is)
    (case k23 => k_is)
    (case a24 => k_is)
    (case l24 => k_is)
    (case c24 => k_is)
    (case k24 => k_is)
    (case a25 => k_is)
    (case l25 => k_is)
    (case c25 => k_is)
    (case k25 => k_is)
    (case a26 => k_is)
    (case l26 => k_is)
    (case c26 => k_is)
    (case k26 => k_is)
    (case a27 => k_is)
    (case l27 => k_is)
    (case c27 => k_is)
    (case k27 => k_is)
    (case a28 => k_is)
    (case l28 => k_is)
    (case c28 => k_is)
    (case k28 => k_is)
    (case a29 => k_is)
    (case l29 => k_is)
    (case c29 => k_is)
    (case k29 => k_is)
    (case a30 => k_is)
    (case l30 => k_is)
    (case c30 => k_is)
    (case k30 => k_is)
    (case a31 => k_is)
    (case l31 => k_is)
    (case c31 => k_is)
    (case k31 => k_is)
    (case a32 => k_is)
    (case l32 => k_is)
    (case c32 => k_is)
    (case k32 => k_is)
    (case a33 => k_is)
    (case l33 => k_is)
    (case c33 => k_is)
    (case k33 => k_is)
    (case a34 => k_is)
    (case l34 => k_is)
    (case c34 => k_is)
    (case k34 => k_is)
    (case a35 => k_is)
    (case l35 => k_is)
    (case c35 => k_is)
    (case k35 => k_is)
    (case a36 => k_is)
    (case l36 => k_is)
    (case c36 => k_is)
    (case k36 => k_is)
    (case a37 => k_is)
    (case l37 => k_is)
    (case c37 => k_is)
    (case k37 => k_is)
    (case a38 => k_is)
    (case l38 => k_is)
    (case c38 => k_is)
    (case k38 => k_is)
    (case a39 => k_is)
    (case l39 => k_is)
    (case c39 => k_is)
    (case k39 => k_is)
    (case a40 => k_is)
    (case l40 => k_is)
    (case c40 => k_is)
    (case k40 => k_is)
    (case a41 => k_is)
    (case l41 => k_is)
    (case c41 => k_is)
    (case k41 => k_is)
    (case a42 => k_is)
    (case l42 => k_is)
    (case c42 => k_is)
    (case k42 => k_is)
    (case a43 => k_is)
    (case l43 => k_is)
    (case c43 => k_is)
    (case k43 => k_is)
    (case a44 => k_is)
    (case l44 => k_is)
    (case c44 => k_is)
    (case k44 => k_is)
    (case a45 => k_is)
    (case l45 => k_is)
    (case c45 => k_is)
    (case k45 => k_is)
    (case a46 => k_is)
    (case l46 => k_is)
    (case c46 => k_is)
    (case k46 => k_is)
    (case a47 => k_is)
    (case l47 => k_is)
    (case c47 => k_is)
    (case k47 => k_is)
    (case a48 => k_is)
    (case l48 => k_is)
    (case c48 => k_is)
    (case k48 => k_is)
    (case a49 => k_is)
    (case l49 => k_is)
    (case c49 => k_is)
    (case k49 => k_is)
    (case a50 => k_is)
    (case l50 => k_is)
    (case c50 => k_is)
    (case k50 => k_is)
    (case a51 => k_is)
    (case l51 => k_is)
    (case c51 => k_is)
    (case k51 => k_is)
    (case a52 => k_is)
    (case l52 => k_is)
    (case c52 => k_is)
    (case k52 => k_is)
    (case a53 => k_is)
    (case l53 => k_is)
    (case c53 => k_is)
    (case k53 => k_is)
    (case a54 => k_is)
    (case l54 => k_is)
    (case c54 => k_is)
    (case k54 => k_is)
    (case a55 => k_is)
    (case l55 => k_is)
    (case c55 => k_is)
    (case k55 => k_is)
    (case a56 => k_is)
    (case l56 => k_is)
    (case c56 => k_is)
    (case k56 => k_is)
    (case a57 => k_is)
    (case l57 => k_is)
    (case c57 => k_is)
    (case k57 => k_is)
    (case a58 => k_is)
    (case l58 => k_is)
    (case c58 => k_is)
    (case k58 => k_is)
    (case a59 => k_is)
    (case l59 => k_is)
    (case c59 => k_is)
    (case k59 => k_is)
    (case a60 => k_is)
    (case l60 => k_is)
    (case c60 => k_is)
    (case k60 => k_is)
    (case a61 => k_is)
    (case l61 => k_is)
    (case c61 => k_is)
    (case k61 => k_is)
    (case a62 => k_is)
    (case l62 => k_is)
    (case c62 => k_is)
    (case k62 => k_is)
    (case a63 => k_is)
    (case i63 => k_is)
    (case l63 => k_is)
    (case c63 => k_is)
    (case k63 => k_is)
    (case z0 => k_is)
    (case z1 => k_is)
    (case z2 => k_is)
    (case z3 => k_is)
    (case z4 => k_is)
    (case z5 => k_is)
    (case z6 => k_is)
    (case z7 => k_is)
    (case z8 => k_is)
    (case z9 => k_is)
    (case z10 => k_is)
    (case z11 => k_is)
    (case z12 => k_is)
    (case z13 => k_is)
    (case cst0 => k_is)
    (case cst1 => k_is)
#print axioms PySem.Challenge.cw_joinedasks_k99_whole_loads_and_settings_holds

