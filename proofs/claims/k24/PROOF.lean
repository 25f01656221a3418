import PyProof.Rows.All
import Wide.All
import OpenK.AllK
import Wide.FinOn
import HandS.ForMost
import HandS.Defaults
import HandS.WideBits
import HandS.Conv
import HandS.IsInst
import HandS.RaiseMore
import HandS.SortInts
import HandS.Style
import HandS.Codes
import HandS.ForExc
import HandS.TryMany
import HandS.Flow
import KE.KEqSeq
import PyProof.ReprRoads
import KE.GoesMore
import KE.KDictZip
import PyProof.ListNew
import PyProof.StrLawsRepr
import HandS.TupAny
import HandS.TryOnly
import HandS.ExcIs
import HandS.SetFor
import PySem.Challenge.RW_joinedasks_k24_asks_and_trees_refused
set_option Elab.async false
set_option linter.all false
set_option maxRecDepth 100000
set_option maxHeartbeats 4000000
set_option exponentiation.threshold 100000
namespace Toy
open PySem PySem.Spec PyProof.Rows L2
/-- a def of the text stands behind its name -/
structure Df (K : PySem.W.Frag) (mg : Str → Option Value) (x : Str) (st : Stmt) (ps : List Str) : Prop where
  ex : ∃ f fd, Fun K x x st f fd ∧ mg x = some (.ref f) ∧ Binds K fd ps []
theorem Df.of {K : PySem.W.Frag} {mg : Str → Option Value} {x : Str} {st : Stmt} {ps : List Str} {f : Addr} {oc : Value} {od an : Option Addr} {osl : Array (Option Value)} {kV doc pm cdv ct : Value}
    (l : K.lookup f = some ⟨oc, od, .func (PySem.W.fnOf x x (defArgs st) (defBody st) (defScope st) .none kV doc pm an cdv ct), osl⟩) (c : PySem.W.codeIn K cdv x = true) (k : PySem.W.keepIn K (.ref f) = true) (m : mg x = some (.ref f))
    (h : ∀ (kV doc pm : Value) (an : Option Addr) (cdv ct : Value) (us : List Value), us.length = ps.length → bindArgs (PySem.W.fnOf x x (defArgs st) (defBody st) (defScope st) .none kV doc pm an cdv ct) ⟨us, []⟩ = pure (ps.zip us)) : Df K mg x st ps :=
  ⟨_, _, fun_mk l c k, m, (fun_mk l c k).binds h⟩
end Toy
namespace Toy
open PySem PySem.Spec PyProof.Rows L2
/-- room for calls, and nothing is being shown (repr, str of containers ask that) -/
structure RoomG (k : Nat) (A : Around) : Prop where
  room : Room k A
  idle : A.guards = some []
theorem RoomG.less {j k : Nat} {A : Around} (r : RoomG k A) (h : j ≤ k) : RoomG j A := ⟨r.room.mono h, r.idle⟩
theorem RoomG.units {k : Nat} {A : Around} (r : RoomG k A) : A.units + 64 < cLine := r.room.units
theorem RoomG.in_ {k : Nat} {A : Around} (r : RoomG (k + 1) A) (env : Env) : RoomG k (A.deeper env) := ⟨r.room.deeper env, r.idle⟩
/-- a def's promise under such a call -/
structure FnG (P : Program) (w : World) (K : PySem.W.Frag) (mg : Str → Option Value) (base : Heap) (CX : CXT) (k : Nat) (f : Addr) (fd : FuncData) (ps : List Str) (sp : Sp) : Prop where
  arity : ∀ vs H Q E, sp vs H Q E → vs.length = ps.length
  go : ∀ {A : Around} {outer : List Env} {s : Shared} {H : Hp} {args : Args} {us : List Value} {vs : List V} {Q : VK} {E : XK}, RoomG k A → Env0 P w K mg base A outer s H →
    BindsTo s fd args (ps.zip us) → Vals vs us → sp vs H Q E → codeAny (model P w) A (.call (.ref f) args) (CR CX outer P w H s Q E) s
section
variable {P : Program} {w : World} {K : PySem.W.Frag} {mg : Str → Option Value} {base : Heap} {CX : CXT}
/-- a body that ends well ends the call well -/
theorem flow_end {N : List Str} {qual : Str} {scope : Scope} {f : Addr} {cd : Value} {A : Around} {outer : List Env} {s : Shared} {H : Hp} {Q : VK} {E : XK} {fl : Flow} {s' : Shared}
    (h : SP (cxOf CX P w K mg base N qual scope f cd A outer s H E) [] { nx := fun _ H' => Q .non H', rt := Q } fl s') :
    ∃ u, (fl = .next ∧ u = Value.none ∨ fl = .ret u) ∧ CE outer P w H s Q u s' := by
  cases fl with
  | next =>
    obtain ⟨σ, H1, J, q⟩ := h
    exact ⟨_, .inl ⟨rfl, rfl⟩, .non, H1, J.os, J.bare, J.base, J.hok, rfl, q⟩
  | ret u =>
    obtain ⟨v, σ, H1, J, r, q⟩ := h
    exact ⟨u, .inr rfl, v, H1, J.os, J.bare, J.base, J.hok, r, q⟩
  | brk =>
    obtain ⟨_, _, _, q⟩ := h
    cases q
  | cont =>
    obtain ⟨_, _, _, q⟩ := h
    cases q
/-- a def of the text, whatever its defaults -/
structure FunA (K : PySem.W.Frag) (x qual : Str) (st : Stmt) (f : Addr) (fd : FuncData) : Prop where
  ex : ∃ (oc : Value) (od : Option Addr) (dV kV doc pm : Value) (an : Option Addr) (cdv ct : Value) (osl : Array (Option Value)),
    fd = PySem.W.fnOf x qual (defArgs st) (defBody st) (defScope st) dV kV doc pm an cdv ct ∧ K.lookup f = some ⟨oc, od, .func fd, osl⟩ ∧ PySem.W.codeIn K cdv qual = true
theorem toA {K : PySem.W.Frag} {x qual : Str} {st : Stmt} {f : Addr} {fd : FuncData} (F : Fun K x qual st f fd) : FunA K x qual st f fd := by
  obtain ⟨oc, od, kV, doc, pm, an, cdv, ct, osl, e, lk, hcd⟩ := F.ex
  exact ⟨⟨oc, od, .none, kV, doc, pm, an, cdv, ct, osl, e, lk, hcd⟩⟩
theorem okGA {x qual : Str} {st : Stmt} {f : Addr} {fd : FuncData} {N ps : List Str} {k : Nat} {sp : Sp} (F : FunA K x qual st f fd) (S : FnScope N ps (defScope st)) (ar : ∀ vs H Q E, sp vs H Q E → vs.length = ps.length)
    (body : ∀ (cdv : Value) (A : Around) (outer : List Env) (s : Shared) (H : Hp) (vs : List V) (Q : VK) (E : XK), RoomG k (A.deeper (envOfC qual (defScope st) s.heap.objs.size f cdv)) → sp vs H Q E →
      ∃ t, PSs (cxOf CX P w K mg base N qual (defScope st) f cdv A outer s H E) (defBody st) t ∧ t { nx := fun _ H' => Q .non H', rt := Q } (start N vs) H) : FnG P w K mg base CX (k + 1) f fd ps sp := by
  obtain ⟨oc, od, dV, kV, doc, pm, an, cdv, ct, osl, rfl, lk, hcd⟩ := F.ex
  refine ⟨ar, ?_⟩
  intro A outer s H args us vs Q E room e0 hb rv hsp
  have kin : K.In s.heap := e0.mod.kin.keeps fun b o z => (e0.bs b o z).1
  have nolim : s.heap.NoLimit := e0.mod.nolimit.keeps fun b o z => (e0.bs b o z).1
  have kinds : ∀ y ∈ ps.zip us, (defScope st).names.lookup y.1 = some .local ∨ ((defScope st).names.lookup y.1 = some .cell ∧ ((cellsFrom (s.heap.objs.size + 1) (defScope st).names []).lookup y.1).isSome = true) := by
    rintro ⟨n, v⟩ hy
    exact (S.par n (List.of_mem_zip hy).1).imp _root_.id fun q => ⟨q, PySem.W.cellsFrom_some _ _ _ (.inl q)⟩
  refine codeAny_call_function room.room.depth (kin _ _ lk) rfl S.co S.gen rfl (PySem.W.codeRec_of kin hcd) (hb _ _ _ _ (wpAny_newFunctionEnv_cells S.kind kinds fun env he s1 inC => ?_))
  subst he
  obtain ⟨t, ht, hq⟩ := body cdv A outer s H vs Q E (room.in_ _) hsp
  refine ⟨nolim.keeps inC.toInCall.keep, codeAny_func (wpAny_mono (ht.run [] s1 (start N vs) H _ (inv_start S room.room.hd e0 (ar _ _ _ _ hsp) rv inC) hq) (fun fl s' z => ?_) fun e s' z => z)⟩
  obtain ⟨u, c, q⟩ := flow_end z
  rcases c with ⟨rfl, rfl⟩ | rfl
  · exact q
  · exact q
theorem okG0A {x qual : Str} {st : Stmt} {f : Addr} {fd : FuncData} {N ps : List Str} {k : Nat} {sp : Sp} (F : FunA K x qual st f fd) (S : FnScope N ps (defScope st)) (ar : ∀ vs H Q E, sp vs H Q E → vs.length = ps.length)
    (body : ∀ (cdv : Value) (A : Around) (outer : List Env) (s : Shared) (H : Hp) (vs : List V) (Q : VK) (E : XK), RoomG k (A.deeper (envOfC qual (defScope st) s.heap.objs.size f cdv)) → sp vs H Q E →
      ∃ t, PSs (cxOf CX0 P w K mg base N qual (defScope st) f cdv A outer s H E).nox (defBody st) t ∧ t { nx := fun _ H' => Q .non H', rt := Q } (start N vs) H) : FnG P w K mg base CX0 (k + 1) f fd ps sp :=
  okGA F S ar fun cdv A outer s H vs Q E hr hsp => (body cdv A outer s H vs Q E hr hsp).imp fun _ z => ⟨z.1.nox, z.2⟩
theorem okG {x qual : Str} {st : Stmt} {f : Addr} {fd : FuncData} {N ps : List Str} {k : Nat} {sp : Sp} (F : Fun K x qual st f fd) (S : FnScope N ps (defScope st)) (ar : ∀ vs H Q E, sp vs H Q E → vs.length = ps.length)
    (body : ∀ (cdv : Value) (A : Around) (outer : List Env) (s : Shared) (H : Hp) (vs : List V) (Q : VK) (E : XK), RoomG k (A.deeper (envOfC qual (defScope st) s.heap.objs.size f cdv)) → sp vs H Q E →
      ∃ t, PSs (cxOf CX P w K mg base N qual (defScope st) f cdv A outer s H E) (defBody st) t ∧ t { nx := fun _ H' => Q .non H', rt := Q } (start N vs) H) : FnG P w K mg base CX (k + 1) f fd ps sp :=
  okGA (toA F) S ar body
theorem okG0 {x qual : Str} {st : Stmt} {f : Addr} {fd : FuncData} {N ps : List Str} {k : Nat} {sp : Sp} (F : Fun K x qual st f fd) (S : FnScope N ps (defScope st)) (ar : ∀ vs H Q E, sp vs H Q E → vs.length = ps.length)
    (body : ∀ (cdv : Value) (A : Around) (outer : List Env) (s : Shared) (H : Hp) (vs : List V) (Q : VK) (E : XK), RoomG k (A.deeper (envOfC qual (defScope st) s.heap.objs.size f cdv)) → sp vs H Q E →
      ∃ t, PSs (cxOf CX0 P w K mg base N qual (defScope st) f cdv A outer s H E).nox (defBody st) t ∧ t { nx := fun _ H' => Q .non H', rt := Q } (start N vs) H) : FnG P w K mg base CX0 (k + 1) f fd ps sp :=
  okG0A (toA F) S ar body
end
section
variable {X : Cx} {CX : CXT} {k : Nat} {f : Addr} {fd : FuncData} {ps : List Str} {sp : Sp}
theorem run_G {pins : List (Addr × Obj)} {σ : L2.St} {H : Hp} {s : Shared} {Q : VK} {E : XK} {us : List Value} {vs : List V} (F : FnG X.prog X.w X.K X.mg X.base CX k f fd ps sp) (hr : RoomG k X.A) (hb : Binds X.K fd ps [])
    (out : ∀ e s', CX X.stack H s E e s' → X.xe e s') (I : Inv X pins σ H s) (r : Vals vs us) (h : sp vs H Q E) : wpAny (model X.prog X.w) X.A (call (.ref f) us) (EP X pins σ Q) X.xe s := by
  have n := (r.length).symm.trans (F.arity _ _ _ _ h)
  have b := hb s us I.kIn (by rw [List.append_nil, n])
  rw [List.append_nil] at b
  refine wpAny_call (codeAny_mono (F.go hr I.env0 b r h) ?_)
  rintro (e | fl) s' q
  · exact out e s' q
  · match fl, q with
    | .ret u, q => exact I.after q
/-- a def and its promise, by its name -/
structure Dn (P : Program) (w : World) (K : PySem.W.Frag) (mg : Str → Option Value) (base : Heap) (k : Nat) (x : Str) (ps : List Str) (sp : Sp) : Prop where
  ex : ∃ f fd, FnG P w K mg base CX0 k f fd ps sp ∧ PySem.W.keepIn K (.ref f) = true ∧ mg x = some (.ref f) ∧ Binds K fd ps []
/-- .. that may raise -/
structure Dx (P : Program) (w : World) (K : PySem.W.Frag) (mg : Str → Option Value) (base : Heap) (k : Nat) (x : Str) (ps : List Str) (sp : Sp) : Prop where
  ex : ∃ f fd, FnG P w K mg base (L2.CX P w) k f fd ps sp ∧ PySem.W.keepIn K (.ref f) = true ∧ mg x = some (.ref f) ∧ Binds K fd ps []
theorem Df.ok {P : Program} {w : World} {K : PySem.W.Frag} {mg : Str → Option Value} {base : Heap} {x : Str} {st : Stmt} (D : Df K mg x st ps)
    (h : ∀ f fd, Fun K x x st f fd → FnG P w K mg base CX0 k f fd ps sp) : Dn P w K mg base k x ps sp := by
  obtain ⟨f, fd, F, m, b⟩ := D.ex
  exact ⟨f, fd, h f fd F, F.kp, m, b⟩
theorem Df.okX {P : Program} {w : World} {K : PySem.W.Frag} {mg : Str → Option Value} {base : Heap} {x : Str} {st : Stmt} (D : Df K mg x st ps)
    (h : ∀ f fd, Fun K x x st f fd → FnG P w K mg base (L2.CX P w) k f fd ps sp) : Dx P w K mg base k x ps sp := by
  obtain ⟨f, fd, F, m, b⟩ := D.ex
  exact ⟨f, fd, h f fd F, F.kp, m, b⟩
variable {x : Str} {p pos : Pos} {e : Expr} {es : List Expr} {t : TA}
theorem pe_cD (D : Dn X.prog X.w X.K X.mg X.base k x ps sp) (hr : RoomG k X.A) (hg : Gl X x) (ha : PA X (e :: es) t) (hdb : (x == ("__debug__" : Str)) = false := by decide)
    (he : starEach (e :: es) X.env = (false, eval e X.env) :: starEach es X.env := by rfl) (hpl : (backTo pos (starEach es X.env)).any (·.1) = false := by rfl) : PE X (.Call (.Name x p) (e :: es) [] pos) (tCall sp [] E0 t) := by
  obtain ⟨f, fd, F, hk, hm, hb⟩ := D.ex
  refine ⟨fun pins s σ H Q I h => wpAny_Call_Name_kw (ld_glob I hg hm (PySem.W.callWith_K (h₀ := X.base) I.ok.mod.kin hk (thn (ha.run pos pins s σ H _ I h) fun us s1 ⟨vs, H1, I1, r, q⟩ => ⟨I1.kIn, ?_⟩) he hpl) hdb)⟩
  have q' : sp vs H1 Q E0 := by
    have z : sp (vs ++ []) H1 Q E0 := q
    rw [List.append_nil] at z
    exact z
  exact run_G F hr hb (fun _ _ z => z.elim) I1 r q'
theorem pe_cD0 (D : Dn X.prog X.w X.K X.mg X.base k x ps sp) (hr : RoomG k X.A) (hg : Gl X x) (hdb : (x == ("__debug__" : Str)) = false := by decide) : PE X (.Call (.Name x p) [] [] pos) (tCall sp [] E0 tNil) := by
  obtain ⟨f, fd, F, hk, hm, hb⟩ := D.ex
  refine ⟨fun pins s σ H Q I h => wpAny_Call_Name_kw (ld_glob I hg hm (PySem.W.callWith_K0 I.kIn hk (run_G (us := []) F hr hb (fun _ _ z => z.elim) I .nil h)) hdb)⟩
/-- a def with defaults: dvs fill up -/
structure Dfd (K : PySem.W.Frag) (mg : Str → Option Value) (x : Str) (st : Stmt) (ps : List Str) (dvs : List V) : Prop where
  ex : ∃ (f : Addr) (fd : FuncData) (ds : List Value), FunA K x x st f fd ∧ PySem.W.keepIn K (.ref f) = true ∧ mg x = some (.ref f) ∧ Binds K fd ps ds ∧ Vals dvs ds
theorem Dfd.of {K : PySem.W.Frag} {mg : Str → Option Value} {x : Str} {st : Stmt} {ps : List Str} {dvs : List V} {f T : Addr} {oc : Value} {od an : Option Addr} {osl : Array (Option Value)} {kV doc pm cdv ct : Value} {o : Obj} {its : List Value} {n m : Nat}
    (l : K.lookup f = some ⟨oc, od, .func (PySem.W.fnOf x x (defArgs st) (defBody st) (defScope st) (.ref T) kV doc pm an cdv ct), osl⟩) (c : PySem.W.codeIn K cdv x = true) (k : PySem.W.keepIn K (.ref f) = true) (mx : mg x = some (.ref f))
    (lT : K.lookup T = some o) (oT : o.data = .seq its.toArray m) (rT : Vals dvs its) (hn : n + dvs.length = ps.length)
    (h : ∀ (us : List Value), us.length = n → ∃ kk, bindArgs (PySem.W.fnOf x x (defArgs st) (defBody st) (defScope st) (.ref T) kV doc pm an cdv ct) ⟨us, []⟩ = seqItems? (.ref T) >>= kk ∧ kk (some its.toArray) = pure (ps.zip (us ++ its))) : Dfd K mg x st ps dvs := by
  refine ⟨f, _, its, ⟨⟨_, _, _, _, _, _, _, _, _, _, rfl, l, c⟩⟩, k, mx, fun s us X hlen => ?_, rT⟩
  have l1 := rT.length
  have l2 : us.length = n := by
    rw [List.length_append] at hlen
    omega
  obtain ⟨kk, e1, e2⟩ := h us l2
  refine BindsTo.of_looks fun M => ?_
  rw [e1]
  exact looks_items X lT oT (.of_pure e2)
/-- .. all parameters given -/
theorem Dfd.ofAll {K : PySem.W.Frag} {mg : Str → Option Value} {x : Str} {st : Stmt} {ps : List Str} {f T : Addr} {oc : Value} {od an : Option Addr} {osl : Array (Option Value)} {kV doc pm cdv ct : Value} {o : Obj} {its : List Value} {n m : Nat}
    (l : K.lookup f = some ⟨oc, od, .func (PySem.W.fnOf x x (defArgs st) (defBody st) (defScope st) (.ref T) kV doc pm an cdv ct), osl⟩) (c : PySem.W.codeIn K cdv x = true) (k : PySem.W.keepIn K (.ref f) = true) (mx : mg x = some (.ref f))
    (lT : K.lookup T = some o) (oT : o.data = .seq its.toArray m) (hn : n = ps.length)
    (h : ∀ (us : List Value), us.length = n → ∃ kk, bindArgs (PySem.W.fnOf x x (defArgs st) (defBody st) (defScope st) (.ref T) kV doc pm an cdv ct) ⟨us, []⟩ = seqItems? (.ref T) >>= kk ∧ kk (some its.toArray) = pure (ps.zip us)) : Dfd K mg x st ps [] := by
  refine ⟨f, _, [], ⟨⟨_, _, _, _, _, _, _, _, _, _, rfl, l, c⟩⟩, k, mx, fun s us X hlen => ?_, .nil⟩
  have l2 : us.length = n := by
    rw [List.append_nil] at hlen
    omega
  obtain ⟨kk, e1, e2⟩ := h us l2
  refine BindsTo.of_looks fun M => ?_
  rw [e1, List.append_nil]
  exact looks_items X lT oT (.of_pure e2)
/-- .. and its promise -/
structure DnD (P : Program) (w : World) (K : PySem.W.Frag) (mg : Str → Option Value) (base : Heap) (k : Nat) (x : Str) (ps : List Str) (dvs : List V) (sp : Sp) : Prop where
  ex : ∃ (f : Addr) (fd : FuncData) (ds : List Value), FnG P w K mg base CX0 k f fd ps sp ∧ PySem.W.keepIn K (.ref f) = true ∧ mg x = some (.ref f) ∧ Binds K fd ps ds ∧ Vals dvs ds
theorem Dfd.ok {P : Program} {w : World} {K : PySem.W.Frag} {mg : Str → Option Value} {base : Heap} {x : Str} {st : Stmt} {dvs : List V} (D : Dfd K mg x st ps dvs)
    (h : ∀ f fd, FunA K x x st f fd → FnG P w K mg base CX0 k f fd ps sp) : DnD P w K mg base k x ps dvs sp := by
  obtain ⟨f, fd, ds, F, kp, m, b, d⟩ := D.ex
  exact ⟨f, fd, ds, h f fd F, kp, m, b, d⟩
theorem run_Gd {pins : List (Addr × Obj)} {σ : L2.St} {H : Hp} {s : Shared} {Q : VK} {E : XK} {us ds : List Value} {vs dvs : List V} (F : FnG X.prog X.w X.K X.mg X.base CX k f fd ps sp) (hr : RoomG k X.A) (hb : Binds X.K fd ps ds) (hd : Vals dvs ds)
    (out : ∀ e s', CX X.stack H s E e s' → X.xe e s') (I : Inv X pins σ H s) (r : Vals vs us) (h : sp (vs ++ dvs) H Q E) : wpAny (model X.prog X.w) X.A (call (.ref f) us) (EP X pins σ Q) X.xe s := by
  have r2 : Vals (vs ++ dvs) (us ++ ds) := r.append hd
  have n : (us ++ ds).length = ps.length := by rw [← r2.length]; exact F.arity _ _ _ _ h
  refine wpAny_call (codeAny_mono (F.go hr I.env0 (hb s us I.kIn n) r2 h) ?_)
  rintro (e | fl) s' q
  · exact out e s' q
  · match fl, q with
    | .ret u, q => exact I.after q
theorem pe_cDd {dvs : List V} (D : DnD X.prog X.w X.K X.mg X.base k x ps dvs sp) (hr : RoomG k X.A) (hg : Gl X x) (ha : PA X (e :: es) t) (hdb : (x == ("__debug__" : Str)) = false := by decide)
    (he : starEach (e :: es) X.env = (false, eval e X.env) :: starEach es X.env := by rfl) (hpl : (backTo pos (starEach es X.env)).any (·.1) = false := by rfl) : PE X (.Call (.Name x p) (e :: es) [] pos) (tCall sp dvs E0 t) := by
  obtain ⟨f, fd, ds, F, hk, hm, hb, hd⟩ := D.ex
  refine ⟨fun pins s σ H Q I h => wpAny_Call_Name_kw (ld_glob I hg hm (PySem.W.callWith_K (h₀ := X.base) I.ok.mod.kin hk (thn (ha.run pos pins s σ H _ I h) fun us s1 ⟨vs, H1, I1, r, q⟩ => ⟨I1.kIn, ?_⟩) he hpl) hdb)⟩
  exact run_Gd F hr hb hd (fun _ _ z => z.elim) I1 r q
/-- a call within a try: what is raised is wished at the slots -/
theorem pe_cX {E : L2.St → XK} (D : Dx X.prog X.w X.K X.mg X.base k x ps sp) (hr : RoomG k X.A) (hg : Gl X x) (hx : ∀ σ, PassesAt (L2.CX X.prog X.w) X σ (E σ)) (ha : PA X (e :: es) t) (hdb : (x == ("__debug__" : Str)) = false := by decide)
    (he : starEach (e :: es) X.env = (false, eval e X.env) :: starEach es X.env := by rfl) (hpl : (backTo pos (starEach es X.env)).any (·.1) = false := by rfl) : PE X (.Call (.Name x p) (e :: es) [] pos) (tCallS sp E t) := by
  obtain ⟨f, fd, F, hk, hm, hb⟩ := D.ex
  exact ⟨fun pins s σ H Q I h => wpAny_Call_Name_kw (ld_glob I hg hm (PySem.W.callWith_K (h₀ := X.base) I.ok.mod.kin hk (thn (ha.run pos pins s σ H _ I h) fun us s1 ⟨vs, H1, I1, r, q⟩ =>
    ⟨I1.kIn, run_G F hr hb (fun e s' z => hx σ pins H1 s1 e s' I1 z) I1 r q⟩) he hpl) hdb)⟩
/-- repr of what is data -/
def rRepr (K : PySem.W.Frag) : List V → Hp → VK → Prop := fun xs H Q => ∃ (x : V) (d : PyData), xs = [x] ∧ Dp K H x d ∧ d.showable = true ∧ d.depth ≤ 60 ∧ d.shown.length ≤ sizeLine ∧ Q (.str d.shown) H
mutual
theorem dp_noDict {K : PySem.W.Frag} {H : Hp} : ∀ (d : PyData) (x : V), Dp K H x d → d.hasDict = false
  | .none, _, _ => rfl
  | .bool _, _, _ => rfl
  | .int _, _, _ => rfl
  | .str _, _, _ => rfl
  | .list ds, _, h => by
    cases h with
    | lst _ ha => simpa [PyData.hasDict] using dp_noDicts ds _ ha
  | .tuple ds, _, h => by
    cases h with
    | tup _ ha => simpa [PyData.hasDict] using dp_noDicts ds _ ha
  | .dict _, _, h => by cases h
theorem dp_noDicts {K : PySem.W.Frag} {H : Hp} : ∀ (ds : List PyData) (xs : List V), DpAll K H xs ds → PyData.hasDictAll ds = false
  | [], _, _ => by simp [PyData.hasDictAll]
  | d :: ds, _, h => by
    cases h with
    | cons a b => simp [PyData.hasDictAll, dp_noDict d _ a, dp_noDicts ds _ b]
end
theorem reprK {K : PySem.W.Frag} (hr : RoomG k X.A) (eK : X.K = K := by rfl) : CallR X (.builtin "repr") (rRepr K) := by
  cases eK
  intro pins s σ H xs us Q I r h
  obtain ⟨x, d, rfl, hd, hs, hdep, hz, q⟩ := h
  obtain ⟨u, rfl, rx⟩ := vals1 r
  obtain ⟨as, rd⟩ := Dp.reads I d x u hd rx
  have hu := hr.units
  have nd := dp_noDict d x hd
  cases hd with
  | non => cases rx; exact PySem.P.repr_of_none ⟨.str _, H, I.tok _, ⟨_, rfl⟩, q⟩
  | bl b => cases rx; exact PySem.P.repr_of_bool ⟨.str _, H, I.tok _, ⟨_, rfl⟩, q⟩
  | int i => obtain ⟨t, rfl⟩ := rx; exact PySem.P.repr_of_int (of_decide_eq_true (by simpa [PyData.showable] using hs)) ⟨.str _, H, I.tok _, ⟨_, rfl⟩, q⟩
  | str z => obtain ⟨t, rfl⟩ := rx; exact PySem.P.repr_of_str ⟨.str _, H, I.tok _, ⟨_, rfl⟩, q⟩ hz
  | lst hq ha =>
    cases rx
    refine repr_of_reads' rd hs (PyData.noDict_hsm nd) hr.idle (by omega) (fun _ _ z => z) (fun h' u tk hk => ⟨.str _, H, I.kept hk, ⟨_, rfl⟩, q⟩) hz
  | tup hq ha =>
    cases rx
    refine repr_of_reads' rd hs (PyData.noDict_hsm nd) hr.idle (by omega) (fun _ _ z => z) (fun h' u tk hk => ⟨.str _, H, I.kept hk, ⟨_, rfl⟩, q⟩) hz
end
end Toy
namespace Toy
open PySem PySem.Spec PyProof.Rows L2
/-- what was tracked stays, but for one object -/
def But (p : Addr) (H H' : Hp) : Prop := ∀ b o, b ≠ p → H b = some o → H' b = some o
theorem But.refl {p : Addr} {H : Hp} : But p H H := fun _ _ _ h => h
theorem But.trans {p : Addr} {H H1 H2 : Hp} (a : But p H H1) (b : But p H1 H2) : But p H H2 := fun c o n h => b c o n (a c o n h)
theorem But.free {p : Addr} {H H' : Hp} (e : But p H H') {l : Addr} (n : l ≠ p) (h : H' l = Option.none) : H l = Option.none := by
  cases q : H l with
  | none => rfl
  | some o =>
    rw [e l o n q] at h
    cases h
theorem same_but {p : Addr} {H H' : Hp} (a : Same H H') : But p H H' := fun c o _ h => a c o h
theorem But.upd {p : Addr} {H : Hp} {o : HO} : But p H (upd H p o) := fun b u n h => by rw [upd_ne n]; exact h
theorem same_new {H : Hp} {p : Addr} (h : H p = none) (o : HO) : Same H (upd H p o) := fun b u q => by rw [upd_ne (ne_of_none q h)]; exact q
theorem but_tup {p : Addr} {K : PySem.W.Frag} {H H' : Hp} {a : Addr} {xs ys : List V} (e : But p H H') (hp : H p = some (.lst ys)) (h : SqT K H a xs) : SqT K H' a xs := by
  rcases h with (h | ⟨o, h⟩) | h
  · exact .inl (.inl (e _ _ (ne_of h hp (by intro z; cases z)) h))
  · exact .inl (.inr ⟨o, e _ _ (ne_of h hp (by intro z; cases z)) h⟩)
  · exact .inr h
theorem same_tup {K : PySem.W.Frag} {H H' : Hp} {a : Addr} {xs : List V} (e : Same H H') (h : SqT K H a xs) : SqT K H' a xs := by
  rcases h with (h | ⟨o, h⟩) | h
  · exact .inl (.inl (e _ _ h))
  · exact .inl (.inr ⟨o, e _ _ h⟩)
  · exact .inr h
/-- the script stays -/
theorem but_seq {p : Addr} {K : PySem.W.Frag} {H H' : Hp} {a : Addr} {xs : List V} (e : But p H H') (n : a ≠ p) (h : SqL K H a xs) : SqL K H' a xs := by
  rcases h with (h | ⟨o, h⟩) | h
  · exact .inl (.inl (e _ _ n h))
  · exact .inl (.inr ⟨o, e _ _ n h⟩)
  · exact .inr h
theorem small {n : Nat} (h : n ≤ 1000) : n ≤ sizeLine := Nat.le_of_lt (small1000 h)
theorem log_lt {i : Int} {n : Nat} (h0 : 0 < n) (h : i.natAbs < 2 ^ n) : i.natAbs.log2 < n := PySem.Flt.log2_lt_of h0 h
theorem divp_small {i j : Int} (hj : 0 < j) (h : j < 2 ^ 8000) : CDivP i j := by
  refine ⟨hj, PyProof.noPylong_of_log2 ?_⟩
  exact Nat.lt_trans (log_lt (n := 8000) (by decide) (by omega)) (by decide)
end Toy
namespace Toy
open PySem PySem.Spec PyProof.Rows L2
theorem ifT {c : Bool} {A B : Prop} (hc : c = true) (h : A) : if c = true then A else B := by rw [if_pos hc]; exact h
theorem ifF {c : Bool} {A B : Prop} (hc : c = false) (h : B) : if c = true then A else B := by rw [hc]; exact iteF h
theorem pj {j : Int} (h : decide ((0 : Int) < j) = true := by decide) : 0 < j := of_decide_eq_true h
theorem sz {xs : List V} (h : Nat.ble xs.length 1000 = true := by rfl) : xs.length ≤ sizeLine := small (Nat.le_of_ble_eq_true h)
theorem but_same {p : Addr} {H H1 H2 : Hp} (n : H p = none) (a : Same H H1) (b : But p H1 H2) : Same H H2 := fun c o h => b c o (ne_of_none h n) (a c o h)
/-- two ways of a value meet -/
theorem ifE {ta tb : TE} {σ : L2.St} {H : Hp} {Q : VK} {b : Bool} (R : V → Hp → Prop) (h : ∀ v H', R v H' → Q v H') (h1 : b = true → ∀ Q' : VK, (∀ v H', R v H' → Q' v H') → ta σ H Q') (h2 : b = false → ∀ Q' : VK, (∀ v H', R v H' → Q' v H') → tb σ H Q') :
    if b = true then ta σ H Q else tb σ H Q := by
  cases b with
  | true => exact iteT (h1 rfl Q h)
  | false => exact iteF (h2 rfl Q h)
theorem mulx {i j : Int} (a b : Nat) (ha : i.natAbs < 2 ^ a) (hb : j.natAbs < 2 ^ b) (h : a + b ≤ 134217728 := by decide) : CMulX i j := mulx_ok ha hb h
end Toy
namespace Toy
open PySem PySem.Spec PyProof.Rows L2
theorem qi {Q : VK} {H : Hp} {a b : Int} (q : Q (.int a) H) (e : a = b) : Q (.int b) H := e ▸ q
end Toy
namespace Toy
open PySem PySem.Spec PyProof.Rows L2
/-- the written part by its letter -/
theorem kk {α : Sort _} {P : α → Prop} {F : PySem.W.Frag → α} {K0 K : PySem.W.Frag} (h : P (F K0)) (e : K0 = K := by rfl) : P (F K) := e ▸ h
def rLen (K : PySem.W.Frag) : List V → Hp → VK → Prop := fun xs H Q => ∃ p ys, xs = [.ref p] ∧ (SqL K H p ys ∨ SqT K H p ys) ∧ Q (.int ys.length) H
theorem lenK {X : Cx} {K : PySem.W.Frag} (e : X.K = K := by rfl) : CallR X (.builtin "len") (rLen K) := by cases e; exact call_len_seq
def rLstOf (K : PySem.W.Frag) : List V → Hp → VK → Prop := fun xs H Q => ∃ p ys, xs = [.ref p] ∧ (SqL K H p ys ∨ SqT K H p ys) ∧ ∀ l, H l = none → Q (.ref l) (upd H l (.lst ys))
theorem lstOfK {X : Cx} {K : PySem.W.Frag} (e : X.K = K := by rfl) : CallR X (.type "list") (rLstOf K) := by cases e; exact call_list_of
def rTupOf (K : PySem.W.Frag) : List V → Hp → VK → Prop := fun xs H Q => ∃ p ys, xs = [.ref p] ∧ ((SqL K H p ys ∧ ∀ l, H l = none → Q (.ref l) (upd H l (.tup ys))) ∨ (SqT K H p ys ∧ Q (.ref p) H))
theorem tupOfK {X : Cx} {K : PySem.W.Frag} (e : X.K = K := by rfl) : CallR X (.type "tuple") (rTupOf K) := by cases e; exact call_tuple_of
theorem dec_ne {α : Type} [DecidableEq α] {a b : α} (h : a = b) : (!decide (a = b)) = false := by rw [decide_eq_true h] <;> rfl
end Toy
namespace Toy
open PySem PySem.Spec PyProof.Rows L2
/-- a tuple of the written part; a tuple that never changes -/
def KTup (K : PySem.W.Frag) (a : Addr) (xs : List V) : Prop := ∃ (o : Obj) (its : Array Value) (n : Nat), K.lookup a = some o ∧ o.cls = .type "tuple" ∧ o.data = .seq its n ∧ its.size ≤ sizeLine ∧ Vals xs its.toList
def TupAt (K : PySem.W.Frag) (H : Hp) (a : Addr) (xs : List V) : Prop := H a = some (.tup xs) ∨ KTup K a xs
theorem TupAt.sq {K : PySem.W.Frag} {H : Hp} {a : Addr} {xs : List V} (h : TupAt K H a xs) : SqT K H a xs := by
  rcases h with h | h
  · exact SqT.of h
  · exact .inr h
theorem TupAt.ty {K : PySem.W.Frag} {H : Hp} {a : Addr} {xs : List V} (h : TupAt K H a xs) : TyX K H (.ref a) (.type "tuple") := by
  rcases h with h | ⟨o, its, n, h1, h2, _⟩
  · exact .base (.tup h)
  · exact .kTuple h1 h2
theorem TupAt.same {K : PySem.W.Frag} {H H' : Hp} {a : Addr} {xs : List V} (e : Same H H') (h : TupAt K H a xs) : TupAt K H' a xs := h.imp (e _ _) id
theorem TupAt.but {K : PySem.W.Frag} {H H' : Hp} {a p : Addr} {xs ys : List V} (e : But p H H') (hp : H p = some (.lst ys)) (h : TupAt K H a xs) : TupAt K H' a xs := h.imp (fun h => e _ _ (ne_of h hp (by intro z; cases z)) h) id
end Toy
namespace Toy
open PySem PySem.Spec PyProof.Rows L2
theorem ints_dp {K : PySem.W.Frag} {H : Hp} : ∀ ns : List Int, DpAll K H (ns.map V.int) (ns.map PyData.int)
  | [] => .nil
  | n :: r => .cons (.int n) (ints_dp r)
theorem ints_sh (ns : List Int) : SeqAt.shaped (.list (ns.map PyData.int)) = true := PySem.W.ke_shaped_ints ns
theorem ints_refl (ns : List Int) : PyData.eqv (.list (ns.map PyData.int)) (.list (ns.map PyData.int)) = true := SeqAt.eqv_refl _ (SeqAt.canLay_of_shaped (ints_sh ns))
theorem lst_dp {K : PySem.W.Frag} {H : Hp} {a : Addr} {ns : List Int} (h : SqL K H a (ns.map V.int)) : Dp K H (.ref a) (.list (ns.map PyData.int)) := .lst h (ints_dp ns)
theorem tupI_dp {K : PySem.W.Frag} {H : Hp} {a : Addr} {ns : List Int} (h : SqT K H a (ns.map V.int)) : Dp K H (.ref a) (.tuple (ns.map PyData.int)) := .tup h (ints_dp ns)
theorem tupI_sh (ns : List Int) : SeqAt.shaped (.tuple (ns.map PyData.int)) = true := ints_sh ns
theorem tupI_refl (ns : List Int) : PyData.eqv (.tuple (ns.map PyData.int)) (.tuple (ns.map PyData.int)) = true := SeqAt.eqv_refl _ (SeqAt.canLay_of_shaped (tupI_sh ns))
theorem cut_map (us : List Int) (lo hi : Option Int) : ∃ ws : List Int, cutV (us.map V.int) lo hi = ws.map V.int ∧ ws.length ≤ us.length ∧ ∀ x ∈ ws, x ∈ us := by
  refine ⟨(us.drop (HT.sIx (us.map V.int).length 0 lo)).take (HT.sIx (us.map V.int).length (us.map V.int).length hi - HT.sIx (us.map V.int).length 0 lo), ?_, ?_, fun x hx => List.mem_of_mem_drop (List.mem_of_mem_take hx)⟩
  · unfold cutV; rw [List.map_take, List.map_drop]
  · rw [List.length_take, List.length_drop]; omega
theorem at_map {us : List Int} {i : Nat} {y : V} (h : (us.map V.int)[i]? = some y) : ∃ x : Int, y = .int x ∧ us[i]? = some x := by
  rw [List.getElem?_map] at h
  cases e : us[i]? with
  | none => rw [e] at h; cases h
  | some x => rw [e] at h; exact ⟨x, (Option.some.inj h).symm, rfl⟩
end Toy
namespace Toy
open PySem PySem.Spec PyProof.Rows L2
/-- the heap in which the script alone stands, unless the text's own part holds it -/
def scriptH (K : PySem.W.Frag) (a : Addr) (o : Obj) (ns : List Int) : Hp := fun c => if (K.lookup a).isNone = true ∧ c = a then some (.frz o (.lst (ns.map V.int))) else none
theorem scriptH_none {K : PySem.W.Frag} {a b : Addr} {o : Obj} {ns : List Int} : scriptH K a o ns b = none ∨ (b = a ∧ K.lookup a = none ∧ scriptH K a o ns b = some (.frz o (.lst (ns.map V.int)))) := by
  unfold scriptH
  by_cases c : (K.lookup a).isNone = true ∧ b = a
  · exact .inr ⟨c.2, Option.isNone_iff_eq_none.mp c.1, if_pos c⟩
  · exact .inl (if_neg c)
theorem law_G {P : Program} {w : World} {K : PySem.W.Frag} {mg mb : Str → Option Value} {k : Nat} {fa a : Addr} {fd : FuncData} {x : Str} {sp : Sp} {s : Shared} {vs : List Value} {ns : List Int}
    (KX : K.In s.heap) (hns : s.heap.Ns mainGlobals mg) (hb : s.heap.Ns builtinsNs mb) (hbb : ∀ x : Str, x ≠ "__name__" → mb x = bootBuiltins x) (hlim : s.heap.NoLimit) (hg : s.gens = #[])
    (ha : s.heap.get? a = some { cls := .type "list", data := .seq vs.toArray }) (hi : IntsAre vs ns) (hl : ns.length ≤ sizeLine) (hr : Room k PySem.callerA)
    (F : ∀ base : Heap, K.In base → base.Ns mainGlobals mg → FnG P w K mg base CX0 k fa fd [x] sp) (hbind : ∀ (s : Shared) (u : Value), BindsTo s fd ⟨[u], []⟩ [(x, u)])
    (hsp : ∀ H : Hp, SqL K H a (ns.map V.int) → sp [.ref a] H (fun v _ => v = .bl true) fun _ _ _ => False) :
    codeAny (model P w) PySem.callerA (.call (.ref fa) ⟨[.ref a], []⟩) (fun r s' => r = .ok (.ret (.bool true)) ∧ OldK s.heap s'.heap ∧ s'.os = s.os ∧ AllBare s'.gens) s := by
  let H : Hp := scriptH K a { cls := .type "list", data := .seq vs.toArray } ns
  have hH : ∀ b, H b = none ∨ (b = a ∧ K.lookup a = none ∧ H b = some (.frz { cls := .type "list", data := .seq vs.toArray } (.lst (ns.map V.int)))) := fun b => scriptH_none
  have rv := vals_ints hi
  have hok : HOk P w H s.heap := by
    intro b u e
    rcases hH b with z | ⟨rfl, _, z⟩
    · rw [z] at e; cases e
    · rw [z] at e
      cases e
      exact ⟨ha, by rw [List.length_map]; exact hl, vs, _, rv, ha⟩
  have hS : SqL K H a (ns.map V.int) := by
    cases q : K.lookup a with
    | none => exact .inl (.inr ⟨_, show scriptH K a _ ns a = _ from if_pos ⟨by rw [q] <;> rfl, rfl⟩⟩)
    | some o =>
      have e := KX a o q
      rw [ha] at e
      cases e
      exact .inr ⟨_, vs.toArray, _, q, rfl, rfl, rfl, by rw [List.size_toArray, hi.length]; exact hl, by simpa using rv⟩
  -- what is no list is not the script
  have notA : ∀ {b : Addr} {o : Obj} {es : Array DictEntry} {ep : Nat}, s.heap.get? b = some o → o.data = .dict es ep → H b = none := by
    intro b o es ep e d
    rcases hH b with z | ⟨rfl, _, _⟩
    · exact z
    · rw [ha] at e
      cases e
      cases (show Data.seq vs.toArray _ = Data.dict es ep from d)
  have ns' : ∀ {b : Addr} {m : Str → Option Value}, s.heap.Ns b m → (hidT s.heap H).Ns b m := by
    rintro b m ⟨o, es, ep, e, d, r⟩
    exact ⟨o, es, ep, hidT_get e (notA e d), d, r⟩
  have kin' : K.In (hidT s.heap H) := by
    intro b o e
    refine hidT_get (KX b o e) ?_
    rcases hH b with z | ⟨rfl, q, _⟩
    · exact z
    · rw [q] at e; cases e
  have md : Mod K mg (hidT s.heap H) := ⟨kin', ns' hns, ⟨mb, ns' hb, hbb⟩, hlim.imp fun _ z => ⟨ns' z.1, z.2⟩⟩
  have e0 : Env0 P w K mg (hidT s.heap H) PySem.callerA [] s H := ⟨rfl, md, fun _ _ z => of_hidT z, Nat.le_of_eq (hidT_size _ _), trivial, (by intro b z; cases z), hok, .of_eq hg⟩
  refine codeAny_mono ((F _ kin' (ns' hns)).go (us := [.ref a]) (vs := [.ref a]) ⟨hr, rfl⟩ e0 (hbind s (.ref a)) (.cons rfl .nil) (hsp H hS)) ?_
  rintro (e | fl) s' q
  · exact q.elim
  match fl, q with
  | .ret u, ⟨v, H', os, bare, un, ok', r', q⟩ =>
    have q' : v = .bl true := q
    subst q'
    obtain rfl : u = Value.bool true := r'
    refine ⟨rfl, OldK.of_keep fun b o e => ?_, os, bare⟩
    rcases hH b with z | ⟨_, _, z⟩
    · exact un.keep b o e z (by intro y; cases y) (by intro y; cases y)
    · have z1 := (hok b _ z).1
      have z2 := (ok' b _ (un.frzs b _ _ z)).1
      rw [e] at z1
      cases z1
      exact z2
theorem walk_G {l : PySem.W.OpenLaw} {n k : Nat} {q : Program} {loose : List Str} {XP : (Str → Option Value) → Heap → Prop} {YP : World → Heap → Prop} {d : DefRec} {K : Params → PySem.W.Frag} {sp : PySem.W.Frag → Sp} {x : Str}
    (hn : l.most = some n) (hn2 : n ≤ sizeLine) (hdf : d.params.defaults = []) (hr : Room k PySem.callerA) (hY : ∀ (w : World) (h : Heap), YP w h → (K w.params).In h)
    (F : ∀ (w : World) (mg : Str → Option Value) (fa : Addr) (h : Heap), (K w.params).In h → h.Ns mainGlobals mg → mg d.name = some (.ref fa) →
      ∃ fd : FuncData, (∀ (s : Shared) (u : Value), BindsTo s fd ⟨[u], []⟩ [(x, u)]) ∧ ∀ base : Heap, (K w.params).In base → base.Ns mainGlobals mg → FnG l.prog w (K w.params) mg base CX0 k fa fd [x] (sp (K w.params)))
    (hsp : ∀ (K : PySem.W.Frag) (H : Hp) (a : Addr) (ns : List Int), ns.length ≤ n → SqL K H a (ns.map V.int) → sp K [.ref a] H (fun v _ => v = .bl true) fun _ _ _ => False) :
    PySem.W.WalkO q loose XP YP l.row.toRowW d [] (fun f vs => PySem.call f vs) :=
  Att.attach_call hn hdf fun w s0 s1 mg mb fa o pm cd doc a vs ns G Y ho hd hcd hmg hobj hints hlen hg => by
    have KX := hY w _ Y
    obtain ⟨fd, hbd, hF⟩ := F w mg fa _ KX G.T.g hmg
    exact law_G KX G.T.g G.T.b G.T.builtins G.T.nolimit hg hobj hints (Nat.le_trans hlen hn2) hr hF hbd fun H hS => hsp _ H a ns hlen hS
end Toy
namespace Toy
open PySem PySem.Spec PyProof.Rows L2
/-! ### how long a shown datum is -/
mutual
def cst : PyData → Nat
  | .none => 5
  | .bool _ => 5
  | .int _ => 1921
  | .str x => (reprText x).length
  | .list xs => csts xs + 4
  | .tuple xs => csts xs + 4
  | .dict _ => 0
def csts : List PyData → Nat
  | [] => 0
  | x :: xs => cst x + 4 + csts xs
end
theorem tupT_len (ts : List Str) : (tupleText ts).length ≤ piled ts + 4 := by
  unfold tupleText
  rw [strLen_append, strLen_append]
  have e1 : ((("(" : String) : Str)).length = 1 := rfl
  have e3 : (((if ts.length == 1 then ",)" else ")" : String) : Str)).length ≤ 2 := by split <;> decide +kernel
  by_cases h : ts = []
  · subst h; decide +kernel
  · have := join_length_add ts h; omega
theorem txtFrom_len : ∀ (ts : List Str) (k : Nat) (acc : Str), (textFrom k acc ts).length ≤ acc.length + piled ts
  | [], k, acc => Nat.le_add_right _ _
  | t :: r, k, acc => by
    have h := txtFrom_len r (k + 1) (acc ++ (if k > 0 then ", " else "" : String) ++ t)
    have e : (acc ++ (if k > 0 then ", " else "" : String) ++ t).length = acc.length + (if k > 0 then 2 else 0) + t.length := by
      rw [strLen_append, strLen_append]
      split <;> rfl
    rw [e] at h
    rw [piled_cons]
    have h2 : (textFrom k acc (t :: r)).length = (textFrom (k + 1) (acc ++ (if k > 0 then ", " else "" : String) ++ t) r).length := rfl
    rw [h2]
    have e2 : (if k > 0 then 2 else 0) ≤ 2 := by split <;> omega
    omega
theorem lstT_len (ts : List Str) : (listText ts).length ≤ piled ts + 4 := by
  unfold listText
  rw [strLen_append]
  have h := txtFrom_len ts 0 "["
  have e1 : ((("[" : String) : Str)).length = 1 := rfl
  have e2 : ((("]" : String) : Str)).length = 1 := rfl
  omega
mutual
theorem shown_le : ∀ d : PyData, d.showable = true → d.hasDict = false → d.shown.length ≤ cst d
  | .none, _, _ => by show (("None" : String) : Str).length ≤ 5; decide +kernel
  | .bool b, _, _ => by cases b <;> (show _ ≤ 5; decide +kernel)
  | .int i, h, _ => PyProof.Rows.int_text_len_1921 (of_decide_eq_true (by simpa [PyData.showable] using h))
  | .str x, _, _ => Nat.le_refl _
  | .list ds, h, g => by
    have h1 := showns_le ds (by simpa [PyData.showable] using h) (by simpa [PyData.hasDict] using g)
    have h2 := lstT_len (PyData.shownAll ds)
    show (listText (PyData.shownAll ds)).length ≤ csts ds + 4
    omega
  | .tuple ds, h, g => by
    have h1 := showns_le ds (by simpa [PyData.showable] using h) (by simpa [PyData.hasDict] using g)
    have h2 := tupT_len (PyData.shownAll ds)
    show (tupleText (PyData.shownAll ds)).length ≤ csts ds + 4
    omega
  | .dict _, _, g => by simp [PyData.hasDict] at g
theorem showns_le : ∀ ds : List PyData, PyData.showableAll ds = true → PyData.hasDictAll ds = false → piled (PyData.shownAll ds) ≤ csts ds
  | [], _, _ => Nat.le_refl _
  | d :: ds, h, g => by
    have h1 := shown_le d (by simp [PyData.showableAll] at h; exact h.1) (by simp [PyData.hasDictAll] at g; exact g.1)
    have h2 := showns_le ds (by simp [PyData.showableAll] at h; exact h.2) (by simp [PyData.hasDictAll] at g; exact g.2)
    show piled (d.shown :: PyData.shownAll ds) ≤ _
    rw [piled_cons]
    show _ ≤ cst d + 4 + csts ds
    omega
end
theorem shown_sz {d : PyData} (h : d.showable = true) (g : d.hasDict = false) (c : cst d ≤ 10000000) : d.shown.length ≤ sizeLine :=
  Nat.le_trans (shown_le d h g) (Nat.le_trans c (by decide))
end Toy
namespace Toy
open PySem PySem.Spec PyProof.Rows L2
/-- a list of ints grown by a part of another one -/
theorem ext_cut {L z : Addr} {ws es : List Int} {lo hi : Option Int} {H : Hp} {R : VK} (hL : H L = some (.lst (ws.map V.int))) (hz : H z = some (.lst (cutV (es.map V.int) lo hi))) (hs : ws.length + es.length ≤ 1000)
    (q : ∀ us : List Int, us.length ≤ es.length → (∀ x ∈ us, x ∈ es) → R .non (upd H L (.lst ((ws ++ us).map V.int)))) : rExtend (.ref L) [.ref z] H R := by
  obtain ⟨us, e, h1, h2⟩ := cut_map es lo hi
  rw [e] at hz
  refine ⟨L, z, _, _, rfl, rfl, hL, hz, small (by rw [List.length_map, List.length_map]; omega), ?_⟩
  have := q us h1 h2
  rw [List.map_append] at this
  exact this
theorem rep_len {n : Nat} : ((List.replicate n true).map V.bl).length = n := by rw [List.length_map, List.length_replicate]
theorem rep_snoc {n : Nat} : (List.replicate n true).map V.bl ++ [V.bl true] = (List.replicate (n + 1) true).map V.bl := by rw [List.replicate_succ', List.map_append] <;> rfl
theorem rep_all (n : Nat) : (List.replicate n true).all id = true := by rw [List.all_eq_true]; intro x hx; rw [List.mem_replicate] at hx; exact hx.2
theorem ixn {n j : Nat} (hj : j < n) : ixN n (j : Int) = some j := by
  unfold ixN
  rw [if_pos (by omega), if_pos (by omega)]
  exact congrArg some (Int.toNat_natCast j)
theorem dec_self (a : V) : decide (a = a) = true := decide_eq_true rfl
end Toy
namespace Toy
open PySem PySem.Spec PyProof.Rows L2
/-- a comprehension within a comprehension -/
theorem relabel_kept {env : Env} : ∀ {names : List (Str × NameKind)} {x : Str}, names.lookup x = some .cell ∨ names.lookup x = some .free →
    (names.map fun (n, k) => if (k == NameKind.free && env.scope.kind == .function && env.kindOf n == some .cell) then (n, NameKind.cell) else (n, k)).lookup x = some .cell ∨
    (names.map fun (n, k) => if (k == NameKind.free && env.scope.kind == .function && env.kindOf n == some .cell) then (n, NameKind.cell) else (n, k)).lookup x = some .free
  | [], _, h => by simp at h
  | (n, k) :: r, x, h => by
    have ih := @relabel_kept env r x
    show List.lookup x ((if (k == NameKind.free && env.scope.kind == .function && env.kindOf n == some .cell) = true then (n, NameKind.cell) else (n, k)) :: _) = _ ∨ List.lookup x ((if (k == NameKind.free && env.scope.kind == .function && env.kindOf n == some .cell) = true then (n, NameKind.cell) else (n, k)) :: _) = _
    cases hx : x == n with
    | true =>
      simp only [List.lookup_cons, hx] at h
      by_cases hc : (k == NameKind.free && env.scope.kind == .function && env.kindOf n == some .cell) = true
      · rw [if_pos hc]; exact .inl (by simp [List.lookup_cons, hx])
      · rw [if_neg hc]; simp only [List.lookup_cons, hx]; exact h
    | false =>
      simp only [List.lookup_cons, hx] at h
      by_cases hc : (k == NameKind.free && env.scope.kind == .function && env.kindOf n == some .cell) = true
      · rw [if_pos hc]; simp only [List.lookup_cons, hx]; exact ih h
      · rw [if_neg hc]; simp only [List.lookup_cons, hx]; exact ih h
theorem blkOk_nest {X : Cx} {s : Shared} {H : Hp} {scope1 scope : Scope} {cl : List (Str × Addr)} {C : Addr} {env : Env} {fp : List Addr} {own : List (Str × Nat)} {N : List Str} (hN : X.N = N) (h : blkC N scope1 scope own = true) :
    BlkOk (X.blk s H scope1 (compEnvC scope1 cl C env) fp).N (X.blk s H scope1 (compEnvC scope1 cl C env) fp).env.scope scope own := by
  subst hN
  obtain ⟨h1, h2, h3, h4, h5⟩ := blkOk_by h
  exact ⟨h1, h2, h3, fun y hy e => relabel_kept (h4 y hy e), h5⟩
end Toy
namespace Toy
open PySem PySem.Spec PyProof.Rows L2
/-! ### own classes -/
/-- where a name's class stands -/
def cAt (mg : Str → Option Value) (x : Str) : Addr := match mg x with | some (.ref C) => C | _ => 0
theorem cAt_eq {mg : Str → Option Value} {x : Str} {C : Addr} (h : mg x = some (.ref C)) : cAt mg x = C := by unfold cAt; rw [h]
structure ClsF (K : PySem.W.Frag) (mg : Str → Option Value) (x : Str) (fs : List Str) : Prop where
  mg_ : mg x = some (.ref (cAt mg x))
  cl : Cls K (cAt mg x)
  no : ∀ f ∈ fs, NoAttr K (cAt mg x) f
theorem ClsF.of {K : PySem.W.Frag} {mg : Str → Option Value} {x : Str} {C : Addr} {fs : List Str} (m : mg x = some (.ref C)) (c : Cls K C) (n : ∀ f ∈ fs, NoAttr K C f) : ClsF K mg x fs := by
  have e := cAt_eq m
  exact ⟨by rw [e]; exact m, by rw [e]; exact c, by rw [e]; exact n⟩
/-- a method, by its class -/
structure DfM (K : PySem.W.Frag) (C : Addr) (m q : Str) (st : Stmt) (ps : List Str) : Prop where
  ex : ∃ f fd, Fun K m q st f fd ∧ Meth K C m f ∧ Binds K fd ps []
theorem DfM.of {K : PySem.W.Frag} {mg : Str → Option Value} {x m q : Str} {st : Stmt} {ps : List Str} {f C : Addr} {oc : Value} {od an : Option Addr} {osl : Array (Option Value)} {kV doc pm cdv ct : Value} (hC : mg x = some (.ref C))
    (a : PySem.W.findIn K (.ref C) m = some (some (.ref f))) (i : PySem.W.isFn K (.ref f) = true)
    (l : K.lookup f = some ⟨oc, od, .func (PySem.W.fnOf m q (defArgs st) (defBody st) (defScope st) .none kV doc pm an cdv ct), osl⟩) (c : PySem.W.codeIn K cdv q = true) (k : PySem.W.keepIn K (.ref f) = true)
    (h : ∀ (kV doc pm : Value) (an : Option Addr) (cdv ct : Value) (us : List Value), us.length = ps.length → bindArgs (PySem.W.fnOf m q (defArgs st) (defBody st) (defScope st) .none kV doc pm an cdv ct) ⟨us, []⟩ = pure (ps.zip us)) : DfM K (cAt mg x) m q st ps := by
  rw [cAt_eq hC]
  exact ⟨_, _, fun_mk l c k, ⟨a, i, k⟩, (fun_mk l c k).binds h⟩
structure DnM (P : Program) (w : World) (K : PySem.W.Frag) (mg : Str → Option Value) (base : Heap) (C : Addr) (k : Nat) (m : Str) (ps : List Str) (sp : Sp) : Prop where
  ex : ∃ f fd, FnG P w K mg base CX0 k f fd ps sp ∧ Meth K C m f ∧ Binds K fd ps []
theorem DfM.ok {P : Program} {w : World} {K : PySem.W.Frag} {mg : Str → Option Value} {base : Heap} {C : Addr} {m q : Str} {st : Stmt} {ps : List Str} {k : Nat} {sp : Sp} (D : DfM K C m q st ps)
    (h : ∀ f fd, Fun K m q st f fd → FnG P w K mg base CX0 k f fd ps sp) : DnM P w K mg base C k m ps sp := by
  obtain ⟨f, fd, F, mt, b⟩ := D.ex
  exact ⟨f, fd, h f fd F, mt, b⟩
/-- the maker of a class -/
structure DfI (K : PySem.W.Frag) (C : Addr) (q : Str) (st : Stmt) (ps : List Str) : Prop where
  ex : ∃ f fd, Fun K "__init__" q st f fd ∧ Mk K C f ∧ Binds K fd ps []
theorem DfI.of {K : PySem.W.Frag} {mg : Str → Option Value} {x q : Str} {st : Stmt} {ps : List Str} {f C : Addr} {oc : Value} {od an : Option Addr} {osl : Array (Option Value)} {kV doc pm cdv ct : Value} (hC : mg x = some (.ref C))
    (a : PySem.W.findIn K (.ref C) "__init__" = some (some (.ref f))) (i : PySem.W.isFn K (.ref f) = true)
    (l : K.lookup f = some ⟨oc, od, .func (PySem.W.fnOf "__init__" q (defArgs st) (defBody st) (defScope st) .none kV doc pm an cdv ct), osl⟩) (c : PySem.W.codeIn K cdv q = true) (k : PySem.W.keepIn K (.ref f) = true)
    (mk : PySem.W.makesIn K C = true) (kc : PySem.W.keepIn K (.ref C) = true)
    (h : ∀ (kV doc pm : Value) (an : Option Addr) (cdv ct : Value) (us : List Value), us.length = ps.length → bindArgs (PySem.W.fnOf "__init__" q (defArgs st) (defBody st) (defScope st) .none kV doc pm an cdv ct) ⟨us, []⟩ = pure (ps.zip us)) : DfI K (cAt mg x) q st ps := by
  rw [cAt_eq hC]
  exact ⟨_, _, fun_mk l c k, ⟨mk, a, i, kc⟩, (fun_mk l c k).binds h⟩
structure DnI (P : Program) (w : World) (K : PySem.W.Frag) (mg : Str → Option Value) (base : Heap) (C : Addr) (k : Nat) (ps : List Str) (sp : Sp) : Prop where
  ex : ∃ f fd, FnG P w K mg base CX0 k f fd ps sp ∧ Mk K C f ∧ Binds K fd ps []
theorem DfI.ok {P : Program} {w : World} {K : PySem.W.Frag} {mg : Str → Option Value} {base : Heap} {C : Addr} {q : Str} {st : Stmt} {ps : List Str} {k : Nat} {sp : Sp} (D : DfI K C q st ps)
    (h : ∀ f fd, Fun K "__init__" q st f fd → FnG P w K mg base CX0 k f fd ps sp) : DnI P w K mg base C k ps sp := by
  obtain ⟨f, fd, F, mt, b⟩ := D.ex
  exact ⟨f, fd, h f fd F, mt, b⟩
theorem RoomG.make {k : Nat} {A : Around} (r : RoomG (k + 1) A) (C : Addr) (us : List Value) (kw : List (Str × Value)) : RoomG k (A.under (.builtin "type.__call__" ⟨.ref C :: us, kw⟩)) :=
  ⟨r.room.make C us kw, r.idle⟩
section
variable {X : Cx} {k : Nat} {C : Addr} {ps : List Str} {sp : Sp} {x m : Str} {p pos apos : Pos} {e o : Expr} {es : List Expr} {ta : TE} {t : TA}
theorem pe_mG {pl : Sem Bool} (D : DnM X.prog X.w X.K X.mg X.base C k m ps sp) (c : Cls X.K C) (hr : RoomG k X.A) (he : PE X o ta) (ha : PA X (e :: es) t)
    (hst : starEach (e :: es) X.env = (false, eval e X.env) :: starEach es X.env := by rfl) (hpl : (backTo pos (starEach es X.env)).any (·.1) = false := by rfl)
    (ht : eval (.Call (.Attribute o m apos) (e :: es) [] pos) X.env = (do
      let ov ← eval o X.env
      standAt apos.atName
      let (f, first) ← holding [ov] (getMethod ov m pl)
      callWith pos f first (backTo pos (starEach (e :: es) X.env)) (backToKw pos (keywordEach [] X.env))) := by rfl) :
    PE X (.Call (.Attribute o m apos) (e :: es) [] pos) (tMeth C m sp [] E0 ta t) := by
  obtain ⟨f, fd, F, hm, hb⟩ := D.ex
  refine ⟨fun pins s σ H Q I h => ?_⟩
  refine PySem.W.methodCall_KW (pl := pl) (thn (he.run pins s σ H _ I h) fun u s1 ⟨x, H1, I1, rx, a, dx, fs, ex, ea, l, q⟩ => ?_) ht
  subst ex
  obtain rfl : u = Value.ref a := rx
  refine getmeth_ok I1 ea c hm l ?_
  refine PySem.W.callWith_K (first := [.ref a]) (h₀ := X.base) I.ok.mod.kin hm.kp (thn (ha.run pos pins s1 σ H1 _ I1 q) fun us s2 ⟨vs, H2, I2, r, q2⟩ => ⟨I2.kIn, ?_⟩) hst hpl
  have q' : sp (.ref a :: vs) H2 Q E0 := by
    have z : sp (.ref a :: (vs ++ [])) H2 Q E0 := q2
    rw [List.append_nil] at z
    exact z
  exact run_G (us := .ref a :: us) (vs := .ref a :: vs) F hr hb (fun _ _ z => z.elim) I2 (.cons rfl r) q'
theorem pe_mG0 {pl : Sem Bool} (D : DnM X.prog X.w X.K X.mg X.base C k m ps sp) (c : Cls X.K C) (hr : RoomG k X.A) (he : PE X o ta)
    (ht : eval (.Call (.Attribute o m apos) [] [] pos) X.env = (do
      let ov ← eval o X.env
      standAt apos.atName
      let (f, first) ← holding [ov] (getMethod ov m pl)
      callWith pos f first (backTo pos (starEach [] X.env)) (backToKw pos (keywordEach [] X.env))) := by rfl) :
    PE X (.Call (.Attribute o m apos) [] [] pos) (tMeth C m sp [] E0 ta tNil) := by
  obtain ⟨f, fd, F, hm, hb⟩ := D.ex
  refine ⟨fun pins s σ H Q I h => ?_⟩
  refine PySem.W.methodCall_KW (pl := pl) (thn (he.run pins s σ H _ I h) fun u s1 ⟨x, H1, I1, rx, a, dx, fs, ex, ea, l, q⟩ => ?_) ht
  subst ex
  obtain rfl : u = Value.ref a := rx
  refine getmeth_ok I1 ea c hm l ?_
  exact PySem.W.callWith_K0 (first := [.ref a]) I1.kIn hm.kp (run_G (us := [.ref a]) (vs := [.ref a]) F hr hb (fun _ _ z => z.elim) I1 (.cons rfl .nil) q)
theorem run_mkG {pins : List (Addr × Obj)} {σ : L2.St} {H : Hp} {s : Shared} {Q : VK} {us : List Value} {vs : List V} {f : Addr} {fd : FuncData} (M : Mk X.K C f) (F : FnG X.prog X.w X.K X.mg X.base CX0 k f fd ps sp) (hr : RoomG (k + 1) X.A) (hb : Binds X.K fd ps [])
    (I : Inv X pins σ H s) (r : Vals vs us)
    (h : ∀ x dx, H x = none → H dx = none → dx ≠ x → sp (.ref x :: vs) (upd (upd H dx (.own x)) x (.ins C dx [])) (fun v H2 => v = .non ∧ Q (.ref x) H2) E0) :
    wpAny (model X.prog X.w) X.A (call (.ref C) us) (EP X pins σ Q) X.xe s := by
  have hq := h (s.heap.objs.size + 1) s.heap.objs.size (I.hok.fresh (Nat.le_succ _)) (I.hok.fresh (Nat.le_refl _)) (Nat.ne_of_lt (Nat.lt_succ_self _))
  have I2 := Inv.made (C := C) I
  have r2 : Vals (V.ref (s.heap.objs.size + 1) :: vs) (Value.ref (s.heap.objs.size + 1) :: us) := .cons rfl r
  have hl : (Value.ref (s.heap.objs.size + 1) :: us).length = ps.length := by
    rw [← r2.length]
    exact F.arity _ _ _ _ hq
  have b := hb { s with heap := _ } (Value.ref (s.heap.objs.size + 1) :: us) I2.kIn (by rw [List.append_nil]; exact hl)
  rw [List.append_nil] at b
  refine wpAny_call (make_map (f := f) I.kIn M.makes M.init (beq_iff_eq.mp M.fn) (codeAny_mono (F.go (hr.make C us []) (I2.env0.make C us []) b r2 hq) fun r s' hq' => ?_))
  cases r with
  | error e => exact hq'.elim
  | ok fl =>
    match fl, hq' with
    | .ret u, hq' =>
      obtain ⟨v, H', I3, rv, ev, q3⟩ := I2.after hq'
      subst ev
      exact ⟨rv, ⟨V.ref (s.heap.objs.size + 1), H', I3, rfl, q3⟩⟩
theorem pe_mkG (D : DnI X.prog X.w X.K X.mg X.base C k ps sp) (hr : RoomG (k + 1) X.A) (hg : Gl X x) (hm : X.mg x = some (.ref C)) (ha : PA X (e :: es) t) (hdb : (x == ("__debug__" : Str)) = false := by decide)
    (he : starEach (e :: es) X.env = (false, eval e X.env) :: starEach es X.env := by rfl) (hpl : (backTo pos (starEach es X.env)).any (·.1) = false := by rfl) :
    PE X (.Call (.Name x p) (e :: es) [] pos) (tMake C sp [] E0 t) := by
  obtain ⟨f, fd, F, M, hb⟩ := D.ex
  refine ⟨fun pins s σ H Q I h => ?_⟩
  refine wpAny_Call_Name_kw (ld_glob I hg hm ?_ hdb)
  refine PySem.W.callWith_K (h₀ := X.base) I.ok.mod.kin M.kp (thn (ha.run pos pins s σ H _ I h) fun us s1 ⟨vs, H1, I1, r, q⟩ => ⟨I1.kIn, ?_⟩) he hpl
  exact run_mkG M F hr hb I1 r fun x dx h1 h2 h3 => by
    have z := q x dx h1 h2 h3
    rw [List.append_nil] at z
    exact z
/-- o.f, as a target -/
def gFld (K : PySem.W.Frag) (to : TE) (f : Str) : TG := fun v σ H Q => to σ H fun x H1 => ∃ a C dx fs, x = .ref a ∧ H1 a = some (.ins C dx fs) ∧ Cls K C ∧ NoAttr K C f ∧ fs.length < 1000 ∧ Q σ (upd H1 a (.ins C dx (putF f v fs)))
theorem pg_fld {f : Str} {to : TE} (ho : PE X o to) : PG X (.Attribute o f pos) (gFld X.K to f) := by
  refine ⟨fun pins s σ H v u Q I r h => ?_⟩
  rw [assign_Attribute]
  refine wpAny_bind (wpAny_holding (thn (ho.run pins s σ H _ I h) fun ov s1 ⟨x, H1, I1, rx, a, C, dx, fs, ex, ea, c, n, l, q⟩ => ?_))
  subst ex
  obtain rfl : ov = Value.ref a := rx
  refine wpAny_bind (wpAny_standAt ?_)
  refine wpAny_bind (wpAny_holding (setattr_ok I1 ea c n l r fun s2 I2 => ?_))
  exact wpAny_release ⟨σ, _, I2, q⟩
end
end Toy
namespace Toy
open PySem PySem.Spec PyProof.Rows L2
theorem hp_same {H H' : Hp} {a : Addr} {o : HO} (s : Same H H') (h : H a = some o) : H' a = some o := s _ _ h
theorem hp_at {H H' : Hp} {a : Addr} {o : HO} (h : H a = some o) (s : Same H H') : H' a = some o := s _ _ h
theorem sql_at {K : PySem.W.Frag} {H H' : Hp} {p : Addr} {xs : List V} (h : SqL K H p xs) (s : Same H H') : SqL K H' p xs := s.seq h
theorem sqt_at {K : PySem.W.Frag} {H H' : Hp} {a : Addr} {xs : List V} (h : SqT K H a xs) (s : Same H H') : SqT K H' a xs := same_tup s h
theorem same_bk {H M H' : Hp} (b : Same M H') (a : Same H M) : Same H H' := a.trans b
theorem hp_new {H : Hp} {l a : Addr} {o u : HO} (n : H l = none) (h : H a = some o) : upd H l u a = some o := same_new n u _ _ h
theorem s1k : 1000 ≤ sizeLine := by decide
theorem lk1000 {n : Nat} (h : n ≤ 1000) : n ≤ sizeLine := Nat.le_trans h s1k
theorem lt1000 {n : Nat} (h : n < 1000) : n < sizeLine := Nat.lt_of_lt_of_le h s1k
theorem tyL {K : PySem.W.Frag} {H : Hp} {p : Addr} {xs : List V} (h : H p = some (.lst xs)) : tyV K "list" (.ref p) H := .inl ⟨rfl, xs, SqL.of h⟩
theorem sq_same {K : PySem.W.Frag} {H H' : Hp} {p : Addr} {xs : List V} (s : Same H H') (h : SqL K H p xs) : SqL K H' p xs := s.seq h
theorem newS {H H' : Hp} {l : Addr} {o : HO} (e : upd H l o = H') (n : H l = none) : Same H H' := e ▸ same_new n o
theorem newO {H H' : Hp} {l : Addr} {o : HO} (e : upd H l o = H') : H' l = some o := e ▸ upd_same
end Toy
namespace Toy
open PySem PySem.Spec PyProof.Rows L2
/-! ### what may raise -/
section
variable {X : Cx} {k : Nat} {ps : List Str} {sp : Sp} {x : Str} {p pos : Pos} {e : Expr} {es : List Expr} {t : TA} {W : WX}
theorem cx_no {outer : List Env} {H : Hp} {s : Shared} {e : Value} {s' : Shared} {P : Program} {w : World} (h : L2.CX P w outer H s E0 e s') : False := by
  obtain ⟨_, _, _, _, _, _, _, _, _, _, _, _, z⟩ := h
  exact z.elim
/-- a call that may raise; W takes what is raised -/
theorem pe_cW (D : Dx X.prog X.w X.K X.mg X.base k x ps sp) (hr : RoomG k X.A) (tk : Takes X W) (hg : Gl X x) (ha : PA X (e :: es) t) (hdb : (x == ("__debug__" : Str)) = false := by decide)
    (he : starEach (e :: es) X.env = (false, eval e X.env) :: starEach es X.env := by rfl) (hpl : (backTo pos (starEach es X.env)).any (·.1) = false := by rfl) : PE X (.Call (.Name x p) (e :: es) [] pos) (tCallS sp (WE W) t) := by
  obtain ⟨f, fd, F, hk, hm, hb⟩ := D.ex
  exact ⟨fun pins s σ H Q I h => wpAny_Call_Name_kw (ld_glob I hg hm (PySem.W.callWith_K (h₀ := X.base) I.ok.mod.kin hk (thn (ha.run pos pins s σ H _ I h) fun us s1 ⟨vs, H1, I1, r, q⟩ => ⟨I1.kIn, run_G F hr hb (fun e s' c => passAt tk σ pins H1 s1 e s' I1 c) I1 r q⟩) he hpl) hdb)⟩
theorem pe_cW0 (D : Dx X.prog X.w X.K X.mg X.base k x ps sp) (hr : RoomG k X.A) (tk : Takes X W) (hg : Gl X x) (hdb : (x == ("__debug__" : Str)) = false := by decide) : PE X (.Call (.Name x p) [] [] pos) (tCallS sp (WE W) tNil) := by
  obtain ⟨f, fd, F, hk, hm, hb⟩ := D.ex
  exact ⟨fun pins s σ H Q I h => wpAny_Call_Name_kw (ld_glob I hg hm (PySem.W.callWith_K0 I.kIn hk (run_G (us := []) F hr hb (fun e s' c => passAt tk σ pins H s e s' I c) I .nil h)) hdb)⟩
/-- .. that does not raise here -/
theorem pe_cXn (D : Dx X.prog X.w X.K X.mg X.base k x ps sp) (hr : RoomG k X.A) (hg : Gl X x) (ha : PA X (e :: es) t) (hdb : (x == ("__debug__" : Str)) = false := by decide)
    (he : starEach (e :: es) X.env = (false, eval e X.env) :: starEach es X.env := by rfl) (hpl : (backTo pos (starEach es X.env)).any (·.1) = false := by rfl) : PE X (.Call (.Name x p) (e :: es) [] pos) (tCall sp [] E0 t) := by
  obtain ⟨f, fd, F, hk, hm, hb⟩ := D.ex
  refine ⟨fun pins s σ H Q I h => wpAny_Call_Name_kw (ld_glob I hg hm (PySem.W.callWith_K (h₀ := X.base) I.ok.mod.kin hk (thn (ha.run pos pins s σ H _ I h) fun us s1 ⟨vs, H1, I1, r, q⟩ => ⟨I1.kIn, ?_⟩) he hpl) hdb)⟩
  have q' : sp vs H1 Q E0 := by
    have z : sp (vs ++ []) H1 Q E0 := q
    rw [List.append_nil] at z
    exact z
  exact run_G F hr hb (fun _ _ z => (cx_no z).elim) I1 r q'
/-- a def with defaults that may raise -/
structure DxD (P : Program) (w : World) (K : PySem.W.Frag) (mg : Str → Option Value) (base : Heap) (k : Nat) (x : Str) (ps : List Str) (dvs : List V) (sp : Sp) : Prop where
  ex : ∃ (f : Addr) (fd : FuncData) (ds : List Value), FnG P w K mg base (L2.CX P w) k f fd ps sp ∧ PySem.W.keepIn K (.ref f) = true ∧ mg x = some (.ref f) ∧ Binds K fd ps ds ∧ Vals dvs ds
theorem Dfd.okX {P : Program} {w : World} {K : PySem.W.Frag} {mg : Str → Option Value} {base : Heap} {x : Str} {st : Stmt} {dvs : List V} (D : Dfd K mg x st ps dvs)
    (h : ∀ f fd, FunA K x x st f fd → FnG P w K mg base (L2.CX P w) k f fd ps sp) : DxD P w K mg base k x ps dvs sp := by
  obtain ⟨f, fd, ds, F, kp, m, b, d⟩ := D.ex
  exact ⟨f, fd, ds, h f fd F, kp, m, b, d⟩
theorem pe_cXd {dvs : List V} (D : DxD X.prog X.w X.K X.mg X.base k x ps dvs sp) (hr : RoomG k X.A) (tk : Takes X W) (hg : Gl X x) (ha : PA X (e :: es) t) (hdb : (x == ("__debug__" : Str)) = false := by decide)
    (he : starEach (e :: es) X.env = (false, eval e X.env) :: starEach es X.env := by rfl) (hpl : (backTo pos (starEach es X.env)).any (·.1) = false := by rfl) : PE X (.Call (.Name x p) (e :: es) [] pos) (fun σ H Q => t σ H fun vs H1 => sp (vs ++ dvs) H1 Q (WE W σ)) := by
  obtain ⟨f, fd, ds, F, hk, hm, hb, hd⟩ := D.ex
  exact ⟨fun pins s σ H Q I h => wpAny_Call_Name_kw (ld_glob I hg hm (PySem.W.callWith_K (h₀ := X.base) I.ok.mod.kin hk (thn (ha.run pos pins s σ H _ I h) fun us s1 ⟨vs, H1, I1, r, q⟩ => ⟨I1.kIn, run_Gd F hr hb hd (fun e s' c => passAt tk σ pins H1 s1 e s' I1 c) I1 r q⟩) he hpl) hdb)⟩
theorem pe_cXdn {dvs : List V} (D : DxD X.prog X.w X.K X.mg X.base k x ps dvs sp) (hr : RoomG k X.A) (hg : Gl X x) (ha : PA X (e :: es) t) (hdb : (x == ("__debug__" : Str)) = false := by decide)
    (he : starEach (e :: es) X.env = (false, eval e X.env) :: starEach es X.env := by rfl) (hpl : (backTo pos (starEach es X.env)).any (·.1) = false := by rfl) : PE X (.Call (.Name x p) (e :: es) [] pos) (tCall sp dvs E0 t) := by
  obtain ⟨f, fd, ds, F, hk, hm, hb, hd⟩ := D.ex
  exact ⟨fun pins s σ H Q I h => wpAny_Call_Name_kw (ld_glob I hg hm (PySem.W.callWith_K (h₀ := X.base) I.ok.mod.kin hk (thn (ha.run pos pins s σ H _ I h) fun us s1 ⟨vs, H1, I1, r, q⟩ => ⟨I1.kIn, run_Gd F hr hb hd (fun _ _ z => (cx_no z).elim) I1 r q⟩) he hpl) hdb)⟩
/-- a method that may raise -/
structure DxM (P : Program) (w : World) (K : PySem.W.Frag) (mg : Str → Option Value) (base : Heap) (C : Addr) (k : Nat) (m : Str) (ps : List Str) (sp : Sp) : Prop where
  ex : ∃ f fd, FnG P w K mg base (L2.CX P w) k f fd ps sp ∧ Meth K C m f ∧ Binds K fd ps []
theorem DfM.okX {P : Program} {w : World} {K : PySem.W.Frag} {mg : Str → Option Value} {base : Heap} {C : Addr} {m q : Str} {st : Stmt} (D : DfM K C m q st ps)
    (h : ∀ f fd, Fun K m q st f fd → FnG P w K mg base (L2.CX P w) k f fd ps sp) : DxM P w K mg base C k m ps sp := by
  obtain ⟨f, fd, F, mt, b⟩ := D.ex
  exact ⟨f, fd, h f fd F, mt, b⟩
variable {m : Str} {apos : Pos} {o : Expr} {ta : TE} {C : Addr}
def tMethX (C : Addr) (m : Str) (sp : Sp) (W : WX) (ta : TE) (t : TA) : TE := fun σ H Q => ta σ H fun x H1 => ∃ a dx fs, x = .ref a ∧ H1 a = some (.ins C dx fs) ∧ fs.lookup m = none ∧ t σ H1 fun vs H2 => sp (x :: vs) H2 Q (WE W σ)
theorem pe_mX {pl : Sem Bool} (D : DxM X.prog X.w X.K X.mg X.base C k m ps sp) (c : Cls X.K C) (hr : RoomG k X.A) (tk : Takes X W) (he : PE X o ta) (ha : PA X (e :: es) t)
    (hst : starEach (e :: es) X.env = (false, eval e X.env) :: starEach es X.env := by rfl) (hpl : (backTo pos (starEach es X.env)).any (·.1) = false := by rfl)
    (ht : eval (.Call (.Attribute o m apos) (e :: es) [] pos) X.env = (do
      let ov ← eval o X.env
      standAt apos.atName
      let (f, first) ← holding [ov] (getMethod ov m pl)
      callWith pos f first (backTo pos (starEach (e :: es) X.env)) (backToKw pos (keywordEach [] X.env))) := by rfl) :
    PE X (.Call (.Attribute o m apos) (e :: es) [] pos) (tMethX C m sp W ta t) := by
  obtain ⟨f, fd, F, hm, hb⟩ := D.ex
  refine ⟨fun pins s σ H Q I h => ?_⟩
  refine PySem.W.methodCall_KW (pl := pl) (thn (he.run pins s σ H _ I h) fun u s1 ⟨x, H1, I1, rx, a, dx, fs, ex, ea, l, q⟩ => ?_) ht
  subst ex
  obtain rfl : u = Value.ref a := rx
  refine getmeth_ok I1 ea c hm l ?_
  refine PySem.W.callWith_K (first := [.ref a]) (h₀ := X.base) I.ok.mod.kin hm.kp (thn (ha.run pos pins s1 σ H1 _ I1 q) fun us s2 ⟨vs, H2, I2, r, q2⟩ => ⟨I2.kIn, ?_⟩) hst hpl
  exact run_G (us := .ref a :: us) (vs := .ref a :: vs) F hr hb (fun e s' c => passAt tk σ pins H2 s2 e s' I2 c) I2 (.cons rfl r) q2
theorem pe_mXn {pl : Sem Bool} (D : DxM X.prog X.w X.K X.mg X.base C k m ps sp) (c : Cls X.K C) (hr : RoomG k X.A) (he : PE X o ta) (ha : PA X (e :: es) t)
    (hst : starEach (e :: es) X.env = (false, eval e X.env) :: starEach es X.env := by rfl) (hpl : (backTo pos (starEach es X.env)).any (·.1) = false := by rfl)
    (ht : eval (.Call (.Attribute o m apos) (e :: es) [] pos) X.env = (do
      let ov ← eval o X.env
      standAt apos.atName
      let (f, first) ← holding [ov] (getMethod ov m pl)
      callWith pos f first (backTo pos (starEach (e :: es) X.env)) (backToKw pos (keywordEach [] X.env))) := by rfl) :
    PE X (.Call (.Attribute o m apos) (e :: es) [] pos) (tMeth C m sp [] E0 ta t) := by
  obtain ⟨f, fd, F, hm, hb⟩ := D.ex
  refine ⟨fun pins s σ H Q I h => ?_⟩
  refine PySem.W.methodCall_KW (pl := pl) (thn (he.run pins s σ H _ I h) fun u s1 ⟨x, H1, I1, rx, a, dx, fs, ex, ea, l, q⟩ => ?_) ht
  subst ex
  obtain rfl : u = Value.ref a := rx
  refine getmeth_ok I1 ea c hm l ?_
  refine PySem.W.callWith_K (first := [.ref a]) (h₀ := X.base) I.ok.mod.kin hm.kp (thn (ha.run pos pins s1 σ H1 _ I1 q) fun us s2 ⟨vs, H2, I2, r, q2⟩ => ⟨I2.kIn, ?_⟩) hst hpl
  have q' : sp (.ref a :: vs) H2 Q E0 := by
    have z : sp (.ref a :: (vs ++ [])) H2 Q E0 := q2
    rw [List.append_nil] at z
    exact z
  exact run_G (us := .ref a :: us) (vs := .ref a :: vs) F hr hb (fun _ _ z => (cx_no z).elim) I2 (.cons rfl r) q'
/-- a maker that may raise -/
structure DxI (P : Program) (w : World) (K : PySem.W.Frag) (mg : Str → Option Value) (base : Heap) (C : Addr) (k : Nat) (ps : List Str) (sp : Sp) : Prop where
  ex : ∃ f fd, FnG P w K mg base (L2.CX P w) k f fd ps sp ∧ Mk K C f ∧ Binds K fd ps []
theorem DfI.okX {P : Program} {w : World} {K : PySem.W.Frag} {mg : Str → Option Value} {base : Heap} {C : Addr} {q : Str} {st : Stmt} (D : DfI K C q st ps)
    (h : ∀ f fd, Fun K "__init__" q st f fd → FnG P w K mg base (L2.CX P w) k f fd ps sp) : DxI P w K mg base C k ps sp := by
  obtain ⟨f, fd, F, mt, b⟩ := D.ex
  exact ⟨f, fd, h f fd F, mt, b⟩
theorem run_mkX {pins : List (Addr × Obj)} {σ : L2.St} {H : Hp} {s : Shared} {Q : VK} {E : XK} {us : List Value} {vs : List V} {f : Addr} {fd : FuncData} (M : Mk X.K C f) (F : FnG X.prog X.w X.K X.mg X.base (L2.CX X.prog X.w) k f fd ps sp) (hr : RoomG (k + 1) X.A) (hb : Binds X.K fd ps [])
    (out : ∀ (H2 : Hp) (s2 : Shared) e s', Inv X pins σ H2 s2 → L2.CX X.prog X.w X.stack H2 s2 E e s' → X.xe e s') (I : Inv X pins σ H s) (r : Vals vs us)
    (h : ∀ x dx, H x = none → H dx = none → dx ≠ x → sp (.ref x :: vs) (upd (upd H dx (.own x)) x (.ins C dx [])) (fun v H2 => v = .non ∧ Q (.ref x) H2) E) :
    wpAny (model X.prog X.w) X.A (call (.ref C) us) (EP X pins σ Q) X.xe s := by
  have hq := h (s.heap.objs.size + 1) s.heap.objs.size (I.hok.fresh (Nat.le_succ _)) (I.hok.fresh (Nat.le_refl _)) (Nat.ne_of_lt (Nat.lt_succ_self _))
  have I2 := Inv.made (C := C) I
  have r2 : Vals (V.ref (s.heap.objs.size + 1) :: vs) (Value.ref (s.heap.objs.size + 1) :: us) := .cons rfl r
  have hl : (Value.ref (s.heap.objs.size + 1) :: us).length = ps.length := by
    rw [← r2.length]
    exact F.arity _ _ _ _ hq
  have b := hb { s with heap := _ } (Value.ref (s.heap.objs.size + 1) :: us) I2.kIn (by rw [List.append_nil]; exact hl)
  rw [List.append_nil] at b
  refine wpAny_call (make_map (f := f) I.kIn M.makes M.init (beq_iff_eq.mp M.fn) (codeAny_mono (F.go (hr.make C us []) (I2.env0.make C us []) b r2 hq) fun r s' hq' => ?_))
  cases r with
  | error e => exact out _ _ e s' I2 hq'
  | ok fl =>
    match fl, hq' with
    | .ret u, hq' =>
      obtain ⟨v, H', I3, rv, ev, q3⟩ := I2.after hq'
      subst ev
      exact ⟨rv, ⟨V.ref (s.heap.objs.size + 1), H', I3, rfl, q3⟩⟩
def tMakeX (C : Addr) (sp : Sp) (W : WX) (t : TA) : TE := fun σ H Q => t σ H fun vs H1 => ∀ x dx, H1 x = none → H1 dx = none → dx ≠ x → sp (.ref x :: vs) (upd (upd H1 dx (.own x)) x (.ins C dx [])) (fun v H2 => v = .non ∧ Q (.ref x) H2) (WE W σ)
theorem pe_mkX (D : DxI X.prog X.w X.K X.mg X.base C k ps sp) (hr : RoomG (k + 1) X.A) (tk : Takes X W) (hg : Gl X x) (hm : X.mg x = some (.ref C)) (ha : PA X (e :: es) t) (hdb : (x == ("__debug__" : Str)) = false := by decide)
    (he : starEach (e :: es) X.env = (false, eval e X.env) :: starEach es X.env := by rfl) (hpl : (backTo pos (starEach es X.env)).any (·.1) = false := by rfl) :
    PE X (.Call (.Name x p) (e :: es) [] pos) (tMakeX C sp W t) := by
  obtain ⟨f, fd, F, M, hb⟩ := D.ex
  refine ⟨fun pins s σ H Q I h => ?_⟩
  refine wpAny_Call_Name_kw (ld_glob I hg hm ?_ hdb)
  refine PySem.W.callWith_K (h₀ := X.base) I.ok.mod.kin M.kp (thn (ha.run pos pins s σ H _ I h) fun us s1 ⟨vs, H1, I1, r, q⟩ => ⟨I1.kIn, ?_⟩) he hpl
  exact run_mkX M F hr hb (fun H2 s2 e s' I2 c => passAt tk σ pins H2 s2 e s' I2 c) I1 r q
theorem pe_mkXn (D : DxI X.prog X.w X.K X.mg X.base C k ps sp) (hr : RoomG (k + 1) X.A) (hg : Gl X x) (hm : X.mg x = some (.ref C)) (ha : PA X (e :: es) t) (hdb : (x == ("__debug__" : Str)) = false := by decide)
    (he : starEach (e :: es) X.env = (false, eval e X.env) :: starEach es X.env := by rfl) (hpl : (backTo pos (starEach es X.env)).any (·.1) = false := by rfl) :
    PE X (.Call (.Name x p) (e :: es) [] pos) (tMake C sp [] E0 t) := by
  obtain ⟨f, fd, F, M, hb⟩ := D.ex
  refine ⟨fun pins s σ H Q I h => ?_⟩
  refine wpAny_Call_Name_kw (ld_glob I hg hm ?_ hdb)
  refine PySem.W.callWith_K (h₀ := X.base) I.ok.mod.kin M.kp (thn (ha.run pos pins s σ H _ I h) fun us s1 ⟨vs, H1, I1, r, q⟩ => ⟨I1.kIn, ?_⟩) he hpl
  exact run_mkX M F hr hb (fun _ _ _ _ _ c => (cx_no c).elim) I1 r fun x dx h1 h2 h3 => by
    have z := q x dx h1 h2 h3
    rw [List.append_nil] at z
    exact z
end
/-- bodies that may raise -/
theorem okGX {P : Program} {w : World} {K : PySem.W.Frag} {mg : Str → Option Value} {base : Heap} {x qual : Str} {st : Stmt} {f : Addr} {fd : FuncData} {N ps : List Str} {k : Nat} {sp : Sp} (F : Fun K x qual st f fd) (S : FnScope N ps (defScope st)) (ar : ∀ vs H Q E, sp vs H Q E → vs.length = ps.length)
    (body : ∀ (cdv : Value) (A : Around) (outer : List Env) (s : Shared) (H : Hp) (vs : List V) (Q : VK) (E : XK), RoomG k (A.deeper (envOfC qual (defScope st) s.heap.objs.size f cdv)) → sp vs H Q E →
      ∃ t, PSs (cxOf (L2.CX P w) P w K mg base N qual (defScope st) f cdv A outer s H E) (defBody st) t ∧ t { nx := fun _ H' => Q .non H', rt := Q } (start N vs) H) : FnG P w K mg base (L2.CX P w) (k + 1) f fd ps sp :=
  okGA (toA F) S ar body
/-- a class of errors -/
structure ExcF (K : PySem.W.Frag) (mg : Str → Option Value) (x : Str) : Prop where
  mg_ : mg x = some (.ref (cAt mg x))
  ex : PySem.W.excIn K (cAt mg x) [.type "ValueError", .type "Exception", .type "BaseException", .type "object"] "ValueError.__new__" = true
  kp : PySem.W.keepIn K (.ref (cAt mg x)) = true
  bs : PySem.W.subIn K (.ref (cAt mg x)) (.type "BaseException") = some true
  tp : PySem.W.typeIn K (.ref (cAt mg x)) = some (.type "type")
  is : PySem.W.isClsIn K (cAt mg x) = true
theorem ExcF.of {K : PySem.W.Frag} {mg : Str → Option Value} {x : Str} {C : Addr} (m : mg x = some (.ref C)) (h1 : PySem.W.excIn K C [.type "ValueError", .type "Exception", .type "BaseException", .type "object"] "ValueError.__new__" = true) (h2 : PySem.W.keepIn K (.ref C) = true)
    (h3 : PySem.W.subIn K (.ref C) (.type "BaseException") = some true) (h4 : PySem.W.typeIn K (.ref C) = some (.type "type")) (h5 : PySem.W.isClsIn K C = true) : ExcF K mg x := by
  have e := cAt_eq m
  exact ⟨by rw [e]; exact m, by rw [e]; exact h1, by rw [e]; exact h2, by rw [e]; exact h3, by rw [e]; exact h4, by rw [e]; exact h5⟩
/-- one class stands under another one, or does not -/
def SubF (K : PySem.W.Frag) (mg : Str → Option Value) (x y : Str) (b : Bool) : Prop := PySem.W.subIn K (.ref (cAt mg x)) (.ref (cAt mg y)) = some b
theorem SubF.of {K : PySem.W.Frag} {mg : Str → Option Value} {x y : Str} {C D : Addr} {b : Bool} (m : mg x = some (.ref C)) (m' : mg y = some (.ref D)) (h : PySem.W.subIn K (.ref C) (.ref D) = some b) : SubF K mg x y b := by
  unfold SubF
  rw [cAt_eq m, cAt_eq m']
  exact h
/-- what an except clause asks -/
theorem exm_of {K : PySem.W.Frag} {mg : Str → Option Value} {x y : Str} {b : Bool} (Y : ExcF K mg y) (h : SubF K mg x y b) : PySem.W.exmOne K (.ref (cAt mg x)) (.ref (cAt mg y)) = some b := by
  have e1 : (PySem.W.subIn K (.ref (cAt mg y)) (.type "BaseException") == some true) = true := by rw [Y.bs] <;> rfl
  have e2 : ((PySem.W.clsIn K (cAt mg y)).isSome && PySem.W.typeIn K (.ref (cAt mg y)) == some (.type "type")) = true := by
    have h2' : (PySem.W.clsIn K (cAt mg y)).isSome = true := Y.is
    rw [h2', Y.tp] <;> rfl
  show (if (PySem.W.subIn K (.ref (cAt mg y)) (.type "BaseException") == some true) = true then (if ((PySem.W.clsIn K (cAt mg y)).isSome && PySem.W.typeIn K (.ref (cAt mg y)) == some (.type "type")) = true then PySem.W.subIn K (.ref (cAt mg x)) (.ref (cAt mg y)) else none) else none) = some b
  rw [if_pos e1, if_pos e2]
  exact h
end Toy
namespace Toy
open PySem PySem.Spec PyProof.Rows L2
/-! ### isinstance of a caught error -/
def rIsX (K : PySem.W.Frag) (cls : Value) (d : Option Addr) (a : Addr) : List V → Hp → VK → Prop := fun xs H Q => ∃ (D : Addr) (c : V) (cv : Value) (b : Bool), xs = [.ref a, c] ∧ cls = .ref D ∧ d = none ∧ ExcC K D ∧ ClsV c cv ∧ PySem.W.kitOne K (.ref D) cv = some b ∧ Q (.bl b) H
theorem call_isX {X : Cx} {a : Addr} {cls : Value} {d : Option Addr} {oe : Obj} {pn : List (Addr × Obj)} (hz : Zc cls d oe) (hf : ∃ vs, oe.data = .fields vs) : CallR (X.suite a ((a, oe) :: pn)) (.builtin "isinstance") (rIsX X.K cls d a) := by
  intro pins s σ H xs us Q I r h
  obtain ⟨D, c, cv, b, rfl, rfl, rfl, C, hc, e, q⟩ := h
  exact call_isE C hz hf pins s σ H _ us Q I r ⟨c, cv, b, rfl, fun u ru => hc.eq ru, e, q⟩
/-- .. with a tuple of classes -/
def rIsXT (K : PySem.W.Frag) (cls : Value) (d : Option Addr) (a : Addr) : List V → Hp → VK → Prop := fun xs H Q => ∃ (D tp : Addr) (cs : List V) (us : List Value) (b : Bool), xs = [.ref a, .ref tp] ∧ cls = .ref D ∧ d = none ∧ ExcC K D ∧ H tp = some (.tup cs) ∧ Paired ClsV cs us ∧ PySem.W.kitAny K (.ref D) us = some b ∧ Q (.bl b) H
theorem call_isXT {X : Cx} {a : Addr} {cls : Value} {d : Option Addr} {oe : Obj} {pn : List (Addr × Obj)} (hz : Zc cls d oe) (hf : ∃ vs, oe.data = .fields vs) : CallR (X.suite a ((a, oe) :: pn)) (.builtin "isinstance") (rIsXT X.K cls d a) := by
  intro pins s σ H xs us Q I r h
  obtain ⟨D, tp, cs, ws, b, rfl, rfl, rfl, C, hT, k, e, q⟩ := h
  obtain ⟨u1, u2, rfl, r1, r2⟩ := vals2 r
  cases (show u1 = Value.ref a from r1)
  cases (show u2 = Value.ref tp from r2)
  obtain ⟨hget, _⟩ := I.pin (a, oe) (List.mem_append.mpr (.inl List.mem_cons_self))
  obtain ⟨vs, hv⟩ := hf
  have J : PySem.W.InstAt s.heap a oe D none := by
    obtain ⟨oc, od, oda, osl⟩ := oe
    obtain ⟨h1, h2⟩ := hz
    dsimp only at h1 h2 hv
    subst h1 h2 hv
    exact ⟨hget, rfl, rfl, trivial⟩
  obtain ⟨_, its, rv, o, h1, h2, n, h3⟩ := (show ObjOk (X.suite a ((a, oe) :: pn)).prog (X.suite a ((a, oe) :: pn)).w H s.heap tp (.tup cs) from I.hok tp _ hT)
  have e3 := ClsV.all k rv
  subst e3
  obtain ⟨oc, od, dt, sl⟩ := o
  simp only at h2 h3
  subst h2 h3
  exact PySem.W.kia_tup (PySem.W.handS_kitx_exc C.hg C.hk C.hs C.hd C.ha C.hn C.ht C.hm) I.kIn J h1 e (fun z => nomatch z) fun tk => ⟨.bl b, H, I.kept (t' := tk) fun _ _ z => z, rfl, q⟩
/-- one class, asked by isinstance -/
theorem kitO {K : PySem.W.Frag} {mg : Str → Option Value} {x y : Str} {b : Bool} (Y : ExcF K mg y) (hx : SubF K mg x x true) (h : SubF K mg x y b) : PySem.W.kitOne K (.ref (cAt mg x)) (.ref (cAt mg y)) = some b := by
  unfold PySem.W.kitOne
  by_cases e : (Value.ref (cAt mg x) == Value.ref (cAt mg y)) = true
  · rw [if_pos e]
    have e' : cAt mg x = cAt mg y := Value.ref.inj (beq_iff_eq.mp e)
    unfold SubF at h hx
    rw [← e', hx] at h
    exact h
  · rw [if_neg e]
    have e2 : ((PySem.W.clsIn K (cAt mg y)).isSome && PySem.W.typeIn K (.ref (cAt mg y)) == some (.type "type")) = true := by
      have h2' : (PySem.W.clsIn K (cAt mg y)).isSome = true := Y.is
      rw [h2', Y.tp] <;> rfl
    show (if ((PySem.W.clsIn K (cAt mg y)).isSome && PySem.W.typeIn K (.ref (cAt mg y)) == some (.type "type")) = true then PySem.W.subIn K (.ref (cAt mg x)) (.ref (cAt mg y)) else none) = some b
    rw [if_pos e2]
    exact h
structure ExcI (K : PySem.W.Frag) (mg : Str → Option Value) (x : Str) : Prop where
  c : ExcC K (cAt mg x)
  ve : PySem.W.subIn K (.ref (cAt mg x)) (.type "ValueError") = some true
theorem ExcI.of {K : PySem.W.Frag} {mg : Str → Option Value} {x : Str} {C : Addr} (m : mg x = some (.ref C)) (h : ExcC K C) (v : PySem.W.subIn K (.ref C) (.type "ValueError") = some true) : ExcI K mg x := by
  have e := cAt_eq m
  exact ⟨by rw [e]; exact h, by rw [e]; exact v⟩
theorem kitVE {K : PySem.W.Frag} {mg : Str → Option Value} {x : Str} (h : ExcI K mg x) : PySem.W.kitOne K (.ref (cAt mg x)) (.type "ValueError") = some true := by
  unfold PySem.W.kitOne
  have e : ¬ (Value.ref (cAt mg x) == Value.type "ValueError") = true := fun z => by cases (beq_iff_eq.mp z)
  rw [if_neg e]
  show (if PySem.W.kitMeta "ValueError" = true then PySem.W.subIn K (.ref (cAt mg x)) (.type "ValueError") else none) = some true
  rw [if_pos (by decide +kernel)]
  exact h.ve
end Toy
namespace Toy
open PySem PySem.Spec PyProof.Rows L2
theorem kitAnyF {K : PySem.W.Frag} {mg : Str → Option Value} {t : Value} : ∀ {ys : List Str}, (∀ y ∈ ys, PySem.W.kitOne K t (.ref (cAt mg y)) = some false) → PySem.W.kitAny K t (ys.map fun y => Value.ref (cAt mg y)) = some false
  | [], _ => kitAny_nil
  | y :: ys, h => kitAny_cons (h y List.mem_cons_self) (fun _ => kitAnyF fun z hz => h z (List.mem_cons_of_mem _ hz)) (fun z => by cases z)
theorem pairOwn {mg : Str → Option Value} : ∀ ys : List Str, Paired ClsV (ys.map fun y => V.ref (cAt mg y)) (ys.map fun y => Value.ref (cAt mg y))
  | [] => .nil
  | y :: ys => .cons (.own _) (pairOwn ys)
end Toy
namespace Toy
open PySem PySem.Spec PyProof.Rows L2
section
variable {X : Cx} {i k1 k2 : Nat} {x : Str} {p pos : Pos} {e : Expr} {es : List Expr} {t : TA} {W : WX}
/-- a local that holds one of two defs, called; both may raise -/
def tCvW (i : Nat) (f1 f2 : Addr) (sp1 sp2 : Sp) (W : WX) (t : TA) : TE := fun σ H Q =>
  (σ[i]? = some (some (.ref f1)) ∧ t σ H fun vs H1 => sp1 vs H1 Q (WE W σ)) ∨ (σ[i]? = some (some (.ref f2)) ∧ t σ H fun vs H1 => sp2 vs H1 Q (WE W σ))
theorem Dx.mg {P : Program} {w : World} {K : PySem.W.Frag} {mg : Str → Option Value} {base : Heap} {k : Nat} {x : Str} {ps : List Str} {sp : Sp} (D : Dx P w K mg base k x ps sp) : mg x = some (.ref (cAt mg x)) := by
  obtain ⟨f, fd, F, hk, hm, hb⟩ := D.ex
  rw [cAt_eq hm]
  exact hm
theorem pe_cvW {mg : Str → Option Value} {x1 x2 : Str} {ps1 ps2 : List Str} {sp1 sp2 : Sp} (D1 : Dx X.prog X.w X.K mg X.base k1 x1 ps1 sp1) (D2 : Dx X.prog X.w X.K mg X.base k2 x2 ps2 sp2) (r1 : RoomG k1 X.A) (r2 : RoomG k2 X.A) (tk : Takes X W) (ha : PA X (e :: es) t)
    (hN : X.N[i]? = some x := by rfl) (hv : Vis X.env.scope x := by first | exact Or.inl rfl | exact Or.inr (Or.inl rfl) | exact Or.inr (Or.inr rfl)) (hd : (x == ("__debug__" : Str)) = false := by decide) (hcd : (x == ("__classdict__" : Str)) = false := by decide)
    (he : starEach (e :: es) X.env = (false, eval e X.env) :: starEach es X.env := by rfl) (hpl : (backTo pos (starEach es X.env)).any (·.1) = false := by rfl) (em : mg = X.mg := by rfl) :
    PE X (.Call (.Name x p) (e :: es) [] pos) (tCvW i (cAt mg x1) (cAt mg x2) sp1 sp2 W t) := by
  subst em
  have one : ∀ {k : Nat} {y : Str} {ps : List Str} {sp : Sp} (pins : List (Addr × Obj)) (s : Shared) (σ : L2.St) (H : Hp) (Q : VK), Dx X.prog X.w X.K X.mg X.base k y ps sp → RoomG k X.A → Inv X pins σ H s → σ[i]? = some (some (.ref (cAt X.mg y))) →
      (t σ H fun vs H1 => sp vs H1 Q (WE W σ)) → wpAny (model X.prog X.w) X.A (eval (.Call (.Name x p) (e :: es) [] pos) X.env) (EP X pins σ Q) X.xe s := by
    intro k y ps sp pins s σ H Q D hr I hs ht
    obtain ⟨f, fd, F, hk, hm, hb⟩ := D.ex
    rw [cAt_eq hm] at hs
    have look := (pe_var (pos := p) hN hv hd hcd).run pins s σ H (fun v H1 => v = .ref f ∧ H1 = H) I ⟨.ref f, hs, rfl, rfl⟩
    refine wpAny_Call_Name_kw (thn look ?_)
    rintro u s1 ⟨v, H1, I1, q1, rfl, rfl⟩
    cases q1
    have args := ha.run pos pins s1 σ _ _ I1 ht
    refine PySem.W.callWith_K (h₀ := X.base) I.ok.mod.kin hk (thn args ?_) he hpl
    rintro us s2 ⟨vs, H2, I2, r, q⟩
    exact ⟨I2.kIn, run_G F hr hb (fun e s' c => passAt tk σ pins H2 s2 e s' I2 c) I2 r q⟩
  constructor
  rintro pins s σ H Q I (⟨h1, h2⟩ | ⟨h1, h2⟩)
  · exact one pins s σ H Q D1 r1 I h1 h2
  · exact one pins s σ H Q D2 r2 I h1 h2
end
end Toy
namespace Toy
open PySem L2
def top (i : Nat) : Stmt := PySem.Challenge.pw_joinedasks_k24_asks_and_trees_refused.main.body.getD i (.Pass ⟨0, 0, 0, 0⟩)
abbrev s_is_whole : Stmt := top 19
theorem sc_is_whole : FnScope ["thing"] ["thing"] (defScope s_is_whole) := ⟨rfl, rfl, rfl, by decide +kernel, rfl, by decide +kernel, by decide +kernel⟩
abbrev s_is_within : Stmt := top 20
theorem sc_is_within : FnScope ["thing", "least", "most"] ["thing", "least", "most"] (defScope s_is_within) := ⟨rfl, rfl, rfl, by decide +kernel, rfl, by decide +kernel, by decide +kernel⟩
abbrev s_is_row_of : Stmt := top 21
theorem sc_is_row_of : FnScope ["thing", "many"] ["thing", "many"] (defScope s_is_row_of) := ⟨rfl, rfl, rfl, by decide +kernel, rfl, by decide +kernel, by decide +kernel⟩
abbrev s_want_whole : Stmt := top 22
theorem sc_want_whole : FnScope ["thing"] ["thing"] (defScope s_want_whole) := ⟨rfl, rfl, rfl, by decide +kernel, rfl, by decide +kernel, by decide +kernel⟩
abbrev s_want_within : Stmt := top 23
theorem sc_want_within : FnScope ["thing", "least", "most"] ["thing", "least", "most"] (defScope s_want_within) := ⟨rfl, rfl, rfl, by decide +kernel, rfl, by decide +kernel, by decide +kernel⟩
abbrev s_is_end : Stmt := top 26
theorem sc_is_end : FnScope ["thing"] ["thing"] (defScope s_is_end) := ⟨rfl, rfl, rfl, by decide +kernel, rfl, by decide +kernel, by decide +kernel⟩
abbrev s_is_deed : Stmt := top 27
theorem sc_is_deed : FnScope ["thing", "add", "low", "high"] ["thing"] (defScope s_is_deed) := ⟨rfl, rfl, rfl, by decide +kernel, rfl, by decide +kernel, by decide +kernel⟩
abbrev s_put_through : Stmt := top 28
theorem sc_put_through : FnScope ["deed", "value", "add", "low", "high", "found"] ["deed", "value"] (defScope s_put_through) := ⟨rfl, rfl, rfl, by decide +kernel, rfl, by decide +kernel, by decide +kernel⟩
abbrev s_whole_deed : Stmt := top 29
theorem sc_whole_deed : FnScope ["add", "low", "high"] ["add", "low", "high"] (defScope s_whole_deed) := ⟨rfl, rfl, rfl, by decide +kernel, rfl, by decide +kernel, by decide +kernel⟩
abbrev s_one_behind : Stmt := top 30
theorem sc_one_behind : FnScope ["one", "other", "low", "high"] ["one", "other"] (defScope s_one_behind) := ⟨rfl, rfl, rfl, by decide +kernel, rfl, by decide +kernel, by decide +kernel⟩
abbrev s_want_many : Stmt := top 33
theorem sc_want_many : FnScope ["many"] ["many"] (defScope s_want_many) := ⟨rfl, rfl, rfl, by decide +kernel, rfl, by decide +kernel, by decide +kernel⟩
abbrev s_is_tree : Stmt := top 34
theorem sc_is_tree : FnScope ["thing", "many", "waiting", "come", "one"] ["thing", "many"] (defScope s_is_tree) := ⟨rfl, rfl, rfl, by decide +kernel, rfl, by decide +kernel, by decide +kernel⟩
abbrev s_want_deeds : Stmt := top 35
theorem sc_want_deeds : FnScope ["deeds", "one"] ["deeds"] (defScope s_want_deeds) := ⟨rfl, rfl, rfl, by decide +kernel, rfl, by decide +kernel, by decide +kernel⟩
abbrev s_want_tree : Stmt := top 36
theorem sc_want_tree : FnScope ["tree", "many"] ["tree", "many"] (defScope s_want_tree) := ⟨rfl, rfl, rfl, by decide +kernel, rfl, by decide +kernel, by decide +kernel⟩
abbrev s_folded_of : Stmt := top 37
theorem sc_folded_of : FnScope ["deeds", "tree"] ["deeds", "tree"] (defScope s_folded_of) := ⟨rfl, rfl, rfl, by decide +kernel, rfl, by decide +kernel, by decide +kernel⟩
abbrev s_folded : Stmt := top 38
theorem sc_folded : FnScope ["deeds", "tree"] ["deeds", "tree"] (defScope s_folded) := ⟨rfl, rfl, rfl, by decide +kernel, rfl, by decide +kernel, by decide +kernel⟩
abbrev s_shared_of : Stmt := top 39
theorem sc_shared_of : FnScope ["deeds", "tree", "value", "left", "one", "right", "other"] ["deeds", "tree", "value"] (defScope s_shared_of) := ⟨rfl, rfl, rfl, by decide +kernel, rfl, by decide +kernel, by decide +kernel⟩
abbrev s_shared_out : Stmt := top 40
theorem sc_shared_out : FnScope ["deeds", "tree", "value"] ["deeds", "tree", "value"] (defScope s_shared_out) := ⟨rfl, rfl, rfl, by decide +kernel, rfl, by decide +kernel, by decide +kernel⟩
abbrev s_halved_from : Stmt := top 41
theorem sc_halved_from : FnScope ["first", "many", "left"] ["first", "many"] (defScope s_halved_from) := ⟨rfl, rfl, rfl, by decide +kernel, rfl, by decide +kernel, by decide +kernel⟩
abbrev s_halved : Stmt := top 42
theorem sc_halved : FnScope ["many"] ["many"] (defScope s_halved) := ⟨rfl, rfl, rfl, by decide +kernel, rfl, by decide +kernel, by decide +kernel⟩
abbrev s_chained : Stmt := top 43
theorem sc_chained : FnScope ["many", "found", "number"] ["many"] (defScope s_chained) := ⟨rfl, rfl, rfl, by decide +kernel, rfl, by decide +kernel, by decide +kernel⟩
abbrev s_is_board : Stmt := top 47
theorem sc_is_board : FnScope ["thing", "value"] ["thing"] (defScope s_is_board) := ⟨rfl, rfl, rfl, by decide +kernel, rfl, by decide +kernel, by decide +kernel⟩
abbrev s_want_board : Stmt := top 48
theorem sc_want_board : FnScope ["board"] ["board"] (defScope s_want_board) := ⟨rfl, rfl, rfl, by decide +kernel, rfl, by decide +kernel, by decide +kernel⟩
abbrev s_is_ask : Stmt := top 49
theorem sc_is_ask : FnScope ["board", "thing"] ["board", "thing"] (defScope s_is_ask) := ⟨rfl, rfl, rfl, by decide +kernel, rfl, by decide +kernel, by decide +kernel⟩
abbrev s_are_asks : Stmt := top 50
theorem sc_are_asks : FnScope ["board", "thing", "one"] ["board", "thing"] (defScope s_are_asks) := ⟨rfl, rfl, rfl, by decide +kernel, rfl, by decide +kernel, by decide +kernel⟩
abbrev s_want_asks : Stmt := top 51
theorem sc_want_asks : FnScope ["board", "asks"] ["board", "asks"] (defScope s_want_asks) := ⟨rfl, rfl, rfl, by decide +kernel, rfl, by decide +kernel, by decide +kernel⟩
abbrev s_played : Stmt := top 52
theorem sc_played : FnScope ["board", "asks", "values", "answers", "hand", "box", "deed"] ["board", "asks"] (defScope s_played) := ⟨rfl, rfl, rfl, by decide +kernel, rfl, by decide +kernel, by decide +kernel⟩
abbrev s_all_of : Stmt := top 53
theorem sc_all_of : FnScope ["board", "asks", "found", "hand", "box", "deed"] ["board", "asks"] (defScope s_all_of) := ⟨rfl, rfl, rfl, by decide +kernel, rfl, by decide +kernel, by decide +kernel⟩
abbrev s_ahead_of : Stmt := top 54
theorem sc_ahead_of : FnScope ["board", "asks", "made", "found", "hand", "box", "deed"] ["board", "asks"] (defScope s_ahead_of) := ⟨rfl, rfl, rfl, by decide +kernel, rfl, by decide +kernel, by decide +kernel⟩
abbrev s__law_pot : Stmt := top 56
theorem sc__law_pot : FnScope ["_law_script", "_law_k", "_law_primes", "_law_cell"] ["_law_script", "_law_k"] (defScope s__law_pot) := ⟨rfl, rfl, rfl, by decide +kernel, rfl, by decide +kernel, by decide +kernel⟩
abbrev s__law_draw : Stmt := top 57
theorem sc__law_draw : FnScope ["_law_pot_here", "_law_many", "_law_digit"] ["_law_pot_here", "_law_many"] (defScope s__law_draw) := ⟨rfl, rfl, rfl, by decide +kernel, rfl, by decide +kernel, by decide +kernel⟩
abbrev s__law_number : Stmt := top 58
theorem sc__law_number : FnScope ["_law_pot_here", "_law_choice", "_law_far", "_law_k"] ["_law_pot_here"] (defScope s__law_number) := ⟨rfl, rfl, rfl, by decide +kernel, rfl, by decide +kernel, by decide +kernel⟩
abbrev s__law_deed : Stmt := top 59
theorem sc__law_deed : FnScope ["_law_pot_here", "_law_choice", "_law_add", "_law_one", "_law_other_here"] ["_law_pot_here"] (defScope s__law_deed) := ⟨rfl, rfl, rfl, by decide +kernel, rfl, by decide +kernel, by decide +kernel⟩
abbrev s__law_board : Stmt := top 60
theorem sc__law_board : FnScope ["_law_pot_here", "_law_k"] ["_law_pot_here"] (defScope s__law_board) := ⟨rfl, rfl, rfl, by decide +kernel, rfl, by decide +kernel, by decide +kernel⟩
abbrev s__law_asks : Stmt := top 61
theorem sc__law_asks : FnScope ["_law_pot_here", "_law_board_here", "_law_most", "_law_many", "_law_near", "_law_found", "_law_k"] ["_law_pot_here", "_law_board_here", "_law_most"] (defScope s__law_asks) := ⟨rfl, rfl, rfl, by decide +kernel, rfl, by decide +kernel, by decide +kernel⟩
abbrev s__law_is_whole : Stmt := top 62
theorem sc__law_is_whole : FnScope ["_law_thing"] ["_law_thing"] (defScope s__law_is_whole) := ⟨rfl, rfl, rfl, by decide +kernel, rfl, by decide +kernel, by decide +kernel⟩
abbrev s__law_is_deed : Stmt := top 63
theorem sc__law_is_deed : FnScope ["_law_thing", "_law_end"] ["_law_thing"] (defScope s__law_is_deed) := ⟨rfl, rfl, rfl, by decide +kernel, rfl, by decide +kernel, by decide +kernel⟩
abbrev s__law_is_board : Stmt := top 64
theorem sc__law_is_board : FnScope ["_law_thing", "_law_value"] ["_law_thing"] (defScope s__law_is_board) := ⟨rfl, rfl, rfl, by decide +kernel, rfl, by decide +kernel, by decide +kernel⟩
abbrev s__law_is_ask : Stmt := top 65
theorem sc__law_is_ask : FnScope ["_law_board_here", "_law_thing", "_law_one"] ["_law_board_here", "_law_thing"] (defScope s__law_is_ask) := ⟨rfl, rfl, rfl, by decide +kernel, rfl, by decide +kernel, by decide +kernel⟩
abbrev s__law_are_asks : Stmt := top 66
theorem sc__law_are_asks : FnScope ["_law_board_here", "_law_thing", "_law_one"] ["_law_board_here", "_law_thing"] (defScope s__law_are_asks) := ⟨rfl, rfl, rfl, by decide +kernel, rfl, by decide +kernel, by decide +kernel⟩
abbrev s__law_other : Stmt := top 67
theorem sc__law_other : FnScope ["_law_pot_here", "_law_thing", "_law_some"] ["_law_pot_here", "_law_thing"] (defScope s__law_other) := ⟨rfl, rfl, rfl, by decide +kernel, rfl, by decide +kernel, by decide +kernel⟩
abbrev s__law_bent : Stmt := top 68
theorem sc__law_bent : FnScope ["_law_pot_here", "_law_thing", "_law_deep", "_law_choice", "_law_at"] ["_law_pot_here", "_law_thing", "_law_deep"] (defScope s__law_bent) := ⟨rfl, rfl, rfl, by decide +kernel, rfl, by decide +kernel, by decide +kernel⟩
abbrev s__law_tree : Stmt := top 69
theorem sc__law_tree : FnScope ["_law_pot_here", "_law_first", "_law_many", "_law_left"] ["_law_pot_here", "_law_first", "_law_many"] (defScope s__law_tree) := ⟨rfl, rfl, rfl, by decide +kernel, rfl, by decide +kernel, by decide +kernel⟩
abbrev s__law_leaves : Stmt := top 70
theorem sc__law_leaves : FnScope ["_law_thing", "_law_deep"] ["_law_thing", "_law_deep"] (defScope s__law_leaves) := ⟨rfl, rfl, rfl, by decide +kernel, rfl, by decide +kernel, by decide +kernel⟩
abbrev s__law_is_tree : Stmt := top 71
theorem sc__law_is_tree : FnScope ["_law_thing", "_law_many", "_law_found", "_law_one"] ["_law_thing", "_law_many"] (defScope s__law_is_tree) := ⟨rfl, rfl, rfl, by decide +kernel, rfl, by decide +kernel, by decide +kernel⟩
abbrev s__law_are_deeds : Stmt := top 72
theorem sc__law_are_deeds : FnScope ["_law_thing", "_law_one"] ["_law_thing"] (defScope s__law_are_deeds) := ⟨rfl, rfl, rfl, by decide +kernel, rfl, by decide +kernel, by decide +kernel⟩
abbrev s__law_word : Stmt := top 73
theorem sc__law_word : FnScope ["_law_choice", "_law_handed", "_law_board_here", "_law_asks_here", "_law_deeds", "_law_tree_here", "_law_value", "_law_many", "_law_told", "e", "_law_some", "_law_others"] ["_law_choice", "_law_handed"] (defScope s__law_word) := ⟨rfl, rfl, rfl, by decide +kernel, rfl, by decide +kernel, by decide +kernel⟩
abbrev s__law_due : Stmt := top 74
theorem sc__law_due : FnScope ["_law_choice", "_law_handed", "_law_board_here", "_law_asks_here", "_law_deeds", "_law_tree_here", "_law_value", "_law_many"] ["_law_choice", "_law_handed"] (defScope s__law_due) := ⟨rfl, rfl, rfl, by decide +kernel, rfl, by decide +kernel, by decide +kernel⟩
abbrev s__law_right : Stmt := top 75
theorem sc__law_right : FnScope ["_law_pot_here", "_law_k", "_law_wrong", "_law_board_here", "_law_asks_here", "_law_deeds", "_law_some", "_law_handed", "_law_thing", "_law_deep", "_law_kept", "_law_choice"] ["_law_pot_here"] (defScope s__law_right) := ⟨rfl, rfl, rfl, by decide +kernel, rfl, by decide +kernel, by decide +kernel⟩
abbrev s_law : Stmt := top 76
theorem sc_law : FnScope ["_law_script", "_law_k"] ["_law_script"] (defScope s_law) := ⟨rfl, rfl, rfl, by decide +kernel, rfl, by decide +kernel, by decide +kernel⟩
structure Bl (K : PySem.W.Frag) (mg : Str → Option Value) : Prop where
  ValueError_ : mg "ValueError" = none
  all_ : mg "all" = none
  bool_ : mg "bool" = none
  e_ : mg "e" = none
  enumerate_ : mg "enumerate" = none
  int_ : mg "int" = none
  isinstance_ : mg "isinstance" = none
  len_ : mg "len" = none
  list_ : mg "list" = none
  max_ : mg "max" = none
  min_ : mg "min" = none
  range_ : mg "range" = none
  repr_ : mg "repr" = none
  str_ : mg "str" = none
  tuple_ : mg "tuple" = none
  LOOK_ : ∃ a, mg "LOOK" = some (.ref a) ∧ KTup K a [.int 0, .non, .non]
  MOST_DEEDS_ : ∃ t, mg "MOST_DEEDS" = some (.int (40) t)
  MOST_BOXES_ : ∃ t, mg "MOST_BOXES" = some (.int (16) t)
  HANDS_ : ∃ t, mg "HANDS" = some (.int (16) t)
  AskError_ : ExcF K mg "AskError"
  NoAsk_ : ExcF K mg "NoAsk"
  NoBoard_ : ExcF K mg "NoBoard"
  NoCalls_ : ExcF K mg "NoCalls"
  NoDeed_ : ExcF K mg "NoDeed"
  NoHand_ : ExcF K mg "NoHand"
  NoNet_ : ExcF K mg "NoNet"
  NoNumber_ : ExcF K mg "NoNumber"
  NoOrder_ : ExcF K mg "NoOrder"
  NoRow_ : ExcF K mg "NoRow"
  NoSettings_ : ExcF K mg "NoSettings"
  NoSide_ : ExcF K mg "NoSide"
  NoTable_ : ExcF K mg "NoTable"
  NoText_ : ExcF K mg "NoText"
  NoToken_ : ExcF K mg "NoToken"
  NoTree_ : ExcF K mg "NoTree"
  TooMany_ : ExcF K mg "TooMany"
  NoNumber_AskError_ : SubF K mg "NoNumber" "AskError" true
  NoNumber_NoAsk_ : SubF K mg "NoNumber" "NoAsk" false
  NoNumber_NoBoard_ : SubF K mg "NoNumber" "NoBoard" false
  NoNumber_NoCalls_ : SubF K mg "NoNumber" "NoCalls" false
  NoNumber_NoDeed_ : SubF K mg "NoNumber" "NoDeed" false
  NoNumber_NoHand_ : SubF K mg "NoNumber" "NoHand" false
  NoNumber_NoNet_ : SubF K mg "NoNumber" "NoNet" false
  NoNumber_NoNumber_ : SubF K mg "NoNumber" "NoNumber" true
  NoNumber_NoOrder_ : SubF K mg "NoNumber" "NoOrder" false
  NoNumber_NoRow_ : SubF K mg "NoNumber" "NoRow" false
  NoNumber_NoSettings_ : SubF K mg "NoNumber" "NoSettings" false
  NoNumber_NoSide_ : SubF K mg "NoNumber" "NoSide" false
  NoNumber_NoTable_ : SubF K mg "NoNumber" "NoTable" false
  NoNumber_NoText_ : SubF K mg "NoNumber" "NoText" false
  NoNumber_NoToken_ : SubF K mg "NoNumber" "NoToken" false
  NoNumber_NoTree_ : SubF K mg "NoNumber" "NoTree" false
  NoNumber_TooMany_ : SubF K mg "NoNumber" "TooMany" false
  NoDeed_AskError_ : SubF K mg "NoDeed" "AskError" true
  NoDeed_NoAsk_ : SubF K mg "NoDeed" "NoAsk" false
  NoDeed_NoBoard_ : SubF K mg "NoDeed" "NoBoard" false
  NoDeed_NoCalls_ : SubF K mg "NoDeed" "NoCalls" false
  NoDeed_NoDeed_ : SubF K mg "NoDeed" "NoDeed" true
  NoDeed_NoHand_ : SubF K mg "NoDeed" "NoHand" false
  NoDeed_NoNet_ : SubF K mg "NoDeed" "NoNet" false
  NoDeed_NoNumber_ : SubF K mg "NoDeed" "NoNumber" false
  NoDeed_NoOrder_ : SubF K mg "NoDeed" "NoOrder" false
  NoDeed_NoRow_ : SubF K mg "NoDeed" "NoRow" false
  NoDeed_NoSettings_ : SubF K mg "NoDeed" "NoSettings" false
  NoDeed_NoSide_ : SubF K mg "NoDeed" "NoSide" false
  NoDeed_NoTable_ : SubF K mg "NoDeed" "NoTable" false
  NoDeed_NoText_ : SubF K mg "NoDeed" "NoText" false
  NoDeed_NoToken_ : SubF K mg "NoDeed" "NoToken" false
  NoDeed_NoTree_ : SubF K mg "NoDeed" "NoTree" false
  NoDeed_TooMany_ : SubF K mg "NoDeed" "TooMany" false
  NoBoard_AskError_ : SubF K mg "NoBoard" "AskError" true
  NoBoard_NoAsk_ : SubF K mg "NoBoard" "NoAsk" false
  NoBoard_NoBoard_ : SubF K mg "NoBoard" "NoBoard" true
  NoBoard_NoCalls_ : SubF K mg "NoBoard" "NoCalls" false
  NoBoard_NoDeed_ : SubF K mg "NoBoard" "NoDeed" false
  NoBoard_NoHand_ : SubF K mg "NoBoard" "NoHand" false
  NoBoard_NoNet_ : SubF K mg "NoBoard" "NoNet" false
  NoBoard_NoNumber_ : SubF K mg "NoBoard" "NoNumber" false
  NoBoard_NoOrder_ : SubF K mg "NoBoard" "NoOrder" false
  NoBoard_NoRow_ : SubF K mg "NoBoard" "NoRow" false
  NoBoard_NoSettings_ : SubF K mg "NoBoard" "NoSettings" false
  NoBoard_NoSide_ : SubF K mg "NoBoard" "NoSide" false
  NoBoard_NoTable_ : SubF K mg "NoBoard" "NoTable" false
  NoBoard_NoText_ : SubF K mg "NoBoard" "NoText" false
  NoBoard_NoToken_ : SubF K mg "NoBoard" "NoToken" false
  NoBoard_NoTree_ : SubF K mg "NoBoard" "NoTree" false
  NoBoard_TooMany_ : SubF K mg "NoBoard" "TooMany" false
  NoAsk_AskError_ : SubF K mg "NoAsk" "AskError" true
  NoAsk_NoAsk_ : SubF K mg "NoAsk" "NoAsk" true
  NoAsk_NoBoard_ : SubF K mg "NoAsk" "NoBoard" false
  NoAsk_NoCalls_ : SubF K mg "NoAsk" "NoCalls" false
  NoAsk_NoDeed_ : SubF K mg "NoAsk" "NoDeed" false
  NoAsk_NoHand_ : SubF K mg "NoAsk" "NoHand" false
  NoAsk_NoNet_ : SubF K mg "NoAsk" "NoNet" false
  NoAsk_NoNumber_ : SubF K mg "NoAsk" "NoNumber" false
  NoAsk_NoOrder_ : SubF K mg "NoAsk" "NoOrder" false
  NoAsk_NoRow_ : SubF K mg "NoAsk" "NoRow" false
  NoAsk_NoSettings_ : SubF K mg "NoAsk" "NoSettings" false
  NoAsk_NoSide_ : SubF K mg "NoAsk" "NoSide" false
  NoAsk_NoTable_ : SubF K mg "NoAsk" "NoTable" false
  NoAsk_NoText_ : SubF K mg "NoAsk" "NoText" false
  NoAsk_NoToken_ : SubF K mg "NoAsk" "NoToken" false
  NoAsk_NoTree_ : SubF K mg "NoAsk" "NoTree" false
  NoAsk_TooMany_ : SubF K mg "NoAsk" "TooMany" false
  NoTree_AskError_ : SubF K mg "NoTree" "AskError" true
  NoTree_NoAsk_ : SubF K mg "NoTree" "NoAsk" false
  NoTree_NoBoard_ : SubF K mg "NoTree" "NoBoard" false
  NoTree_NoCalls_ : SubF K mg "NoTree" "NoCalls" false
  NoTree_NoDeed_ : SubF K mg "NoTree" "NoDeed" false
  NoTree_NoHand_ : SubF K mg "NoTree" "NoHand" false
  NoTree_NoNet_ : SubF K mg "NoTree" "NoNet" false
  NoTree_NoNumber_ : SubF K mg "NoTree" "NoNumber" false
  NoTree_NoOrder_ : SubF K mg "NoTree" "NoOrder" false
  NoTree_NoRow_ : SubF K mg "NoTree" "NoRow" false
  NoTree_NoSettings_ : SubF K mg "NoTree" "NoSettings" false
  NoTree_NoSide_ : SubF K mg "NoTree" "NoSide" false
  NoTree_NoTable_ : SubF K mg "NoTree" "NoTable" false
  NoTree_NoText_ : SubF K mg "NoTree" "NoText" false
  NoTree_NoToken_ : SubF K mg "NoTree" "NoToken" false
  NoTree_NoTree_ : SubF K mg "NoTree" "NoTree" true
  NoTree_TooMany_ : SubF K mg "NoTree" "TooMany" false
  NoNumber_i : ExcI K mg "NoNumber"
  NoDeed_i : ExcI K mg "NoDeed"
  NoBoard_i : ExcI K mg "NoBoard"
  NoAsk_i : ExcI K mg "NoAsk"
  NoTree_i : ExcI K mg "NoTree"

end Toy
namespace PySem
/-! ### a, b, .. = a list -/
section
open PyProof.Rows
variable {prog : Program} {w : World} {A : Around} {E : Value → Shared → Prop} {s : Shared}
theorem draw_listU {it t : Addr} {items : Array Value} (hne : t ≠ it) : ∀ (n i : Nat) (s : Shared) (Q : List Value → Shared → Prop), s.heap.IsListIter it t i → s.heap.IsList t items → i + n ≤ items.size →
    (∀ h', h'.IsListIter it t (i + n) → Heap.SameBut it s.heap h' → Q ((items.toList.drop i).take n) { s with heap := h' }) → wpAny (model prog w) A (draw (.ref it) n) Q E s
  | 0, i, s, Q, hit, _, _, hQ => by
    show wpAny _ _ (pure []) Q E s
    exact wpAny_pure (by simpa using hQ s.heap hit (Heap.SameBut.refl ..))
  | n + 1, i, s, Q, hit, ht, hle, hQ => by
    have hlt : i < items.size := by omega
    show wpAny _ _ (pyNext (.ref it) >>= _) Q E s
    refine wpAny_bind (wpAny_pyNext_list_item hit ht (x := items[i]) (by simp [hlt]) fun h₁ hit₁ hs₁ => ?_)
    refine wpAny_bind (wpAny_holding (draw_listU hne n (i + 1) _ _ hit₁ (ht.extBut hs₁.extBut hne) (by omega) fun h₂ hit₂ hs₂ => wpAny_pure ?_))
    have hd : items.toList.drop i = items[i] :: items.toList.drop (i + 1) := by simp [List.drop_eq_getElem_cons, hlt]
    have := hQ h₂ (by rw [show i + (n + 1) = i + 1 + n by omega]; exact hit₂) (hs₁.trans hs₂)
    rw [hd, List.take_succ_cons] at this
    exact this
theorem unpackItems_listU {t : Addr} {items : Array Value} {Q : List Value → Shared → Prop} (hh : A.handled = none) (ht : s.heap.IsList t items)
    (hQ : ∀ h', Heap.ExtBut s.heap.objs.size s.heap h' → Q items.toList { s with heap := h' }) : wpAny (model prog w) A (unpackItems (.ref t) items.size none) Q E s := by
  have hlt : t ≠ s.heap.objs.size := by obtain ⟨o, ho, _⟩ := ht; exact Nat.ne_of_lt (Heap.lt_size ho)
  unfold unpackItems
  refine wpAny_bind ?_
  · unfold notIterableAtAll
    refine wpAny_bind (wpAny_specialOf ht.typeIs slot_list_iter.lookup ?_)
    refine wpAny_pure ?_
    simp only [Bool.false_eq_true, if_false]
    refine wpAny_bind (wpAny_holding (wpAny_pyIter_list ht ?_))
    refine wpAny_bind (wpAny_holding (draw_listU hlt items.size 0 _ _ ⟨_, Heap.get?_push_size _ rfl, rfl, rfl⟩ (ht.push _) (by omega) fun h₁ hit₁ hs₁ => ?_))
    have hall : List.take items.size (List.drop 0 items.toList) = items.toList := by
      rw [List.drop_zero]; exact List.take_of_length_le (by simp)
    rw [hall]
    rw [if_neg (by simp)]
    have ht₁ : h₁.IsList t items := (ht.push _).extBut hs₁.extBut hlt
    refine wpAny_bind (wpAny_holding (wpAny_pyNext_list_end hh hit₁ ht₁ (by simp) fun h₂ he₂ => ?_))
    simp only [Option.isSome_none, Bool.false_eq_true, if_false]
    refine wpAny_pure (hQ h₂ fun b o hb e => he₂ b o hb (hs₁.extBut b o hb (Heap.get?_push_of_some _ e)))
theorem assign_Tuple_listU {env : Env} {elts : List Expr} {x1} {pos : Pos} {t : Addr} {items : Array Value} {Q : Unit → Shared → Prop} (hh : A.handled = none) (ht : s.heap.IsList t items)
    (hn : (assignEach elts env).length = items.size) (hstar : (assignEach elts env).findIdx? (·.1) = none)
    (h : ∀ h', Heap.ExtBut s.heap.objs.size s.heap h' → wpAny (model prog w) A (assignInOrder ((assignEach elts env).map (·.2)) items.toList) Q E { s with heap := h' }) :
    wpAny (model prog w) A (assign (.Tuple elts x1 pos) env (.ref t)) Q E s := by
  rw [assign_Tuple]
  refine wpAny_bind (wpAny_standAt ?_)
  unfold unpack
  rw [hn, hstar]
  exact wpAny_bind (wpAny_holding (unpackItems_listU hh ht h))
end
end PySem
namespace Toy
open PySem PySem.Spec PyProof.Rows L2
/-- (a, b, ..) = a list of that length -/
def gLstU (K : PySem.W.Frag) (n : Nat) (t : TGs) : TG := fun v σ H Q => ∃ a xs, v = .ref a ∧ SqL K H a xs ∧ xs.length = n ∧ t xs σ H Q
theorem pg_lstU {X : Cx} {pos : Pos} {es : List Expr} {k : Nat} {t : TGs} {n : Nat} (hc : X.calm = true) (h : PGs X es t)
    (hn : (assignEach es X.env).length = n := by rfl) (hst : (assignEach es X.env).findIdx? (·.1) = none := by rfl) : PG X (.Tuple es k pos) (gLstU X.K n t) := by
  refine ⟨fun pins s σ H v u Q I r hw => ?_⟩
  obtain ⟨a, xs, e1, hq, hl, hw⟩ := hw
  subst e1
  cases r
  obtain ⟨its, rv, ht, hz⟩ := I.list hq
  refine assign_Tuple_listU (I.ok.hd hc) ht.isList (by simp [hn, ← hl, rv.length]) hst fun h' hx => ?_
  have I1 : Inv X pins σ H { s with heap := h' } := I.kept (t' := s.toks) fun b o e => hx b o (Nat.ne_of_lt (Heap.lt_size e)) e
  exact h.run pins _ σ H xs _ Q I1 (by simpa using rv) hw
/-! ### list.count of flat values -/
theorem cntU {K : PySem.W.Frag} {y : V} {uy : Value} (fy : flatV y = true) (ry : RelV y uy) : ∀ {ys : List V} {us : List Value}, Vals ys us → ys.all flatV = true → us.countP (eqU y) = ys.countP (fun z => eqV z y)
  | _, _, .nil, _ => rfl
  | _, _, .cons (a := v) (l₁ := vs) r rs, h => by
    have h' : (flatV v && vs.all flatV) = true := h
    rw [Bool.and_eq_true] at h'
    have ih := cntU (K := K) fy ry rs h'.2
    rw [List.countP_cons, List.countP_cons, ih, eqU_of r h'.1]
def rCntF (K : PySem.W.Frag) : V → List V → Hp → VK → Prop := fun x xs H Q => ∃ (p : Addr) (ys : List V) (y : V), x = .ref p ∧ xs = [y] ∧ SqL K H p ys ∧ flatV y = true ∧ ys.all flatV = true ∧ Q (.int (ys.countP (fun z => eqV z y) : Nat)) H
theorem mt_lcountF {X : Cx} : MtR X "list.count" (rCntF X.K) := by
  intro pins s σ H x xs v us Q I rx rxs h
  obtain ⟨p, ys, y, rfl, rfl, hs, fy, fys, q⟩ := h
  cases rx
  obtain ⟨u, rfl, ru⟩ := rxs.one
  obtain ⟨its, rv, ⟨⟨cls, dd, data, sl⟩, n, ho, hc, hdn, hd⟩, hlen⟩ := I.list hs
  simp only at hc hd
  subst hc hd
  refine call_meets PySem.F.slot_list_count ⟨_, ho, rfl⟩ PySem.F.entry_list_count (PySem.F.args_list_count_2 _ _)
    (SeqAt.list_countAt p its.toArray n dd sl u (eqU y)) ⟨ho, fun u' hu' => mem_eqAt ru fy rv fys u' (by simpa using hu'), ?_⟩
  have ec : its.toArray.toList.countP (eqU y) = ys.countP (fun z => eqV z y) := cntU (K := X.K) fy ru rv fys
  refine ⟨.int (ys.countP (fun z => eqV z y) : Nat), H, I.tok _, ⟨s.toks, ?_⟩, q⟩
  rw [ec]
end Toy
namespace PySem
theorem eval_CallSub (o i : Expr) (p : Pos) (args : List Expr) (kws : List Keyword) (pos : Pos) (env : Env) : eval (.Call (.Subscript o i p) args kws pos) env = (do
    callWith pos (← eval (.Subscript o i p) env) [] (backTo pos (starEach args env)) (backToKw pos (keywordEach kws env))) := by
  first | rfl | (unfold eval; rfl) | simp only [eval]
end PySem
namespace Toy
open PySem PySem.Spec PyProof.Rows L2
/-! ### [f, g, h][i](..): one of three defs that may raise -/
def tC3 (f1 f2 f3 : Addr) (s1 s2 s3 : Sp) (W : WX) (to : TE) (t : TA) : TE := fun σ H Q => to σ H fun x H1 =>
  (x = .ref f1 ∧ t σ H1 fun vs H2 => s1 vs H2 Q (WE W σ)) ∨ (x = .ref f2 ∧ t σ H1 fun vs H2 => s2 vs H2 Q (WE W σ)) ∨ (x = .ref f3 ∧ t σ H1 fun vs H2 => s3 vs H2 Q (WE W σ))
theorem pe_c3 {X : Cx} {k1 k2 k3 : Nat} {mg : Str → Option Value} {x1 x2 x3 : Str} {ps1 ps2 ps3 : List Str} {s1 s2 s3 : Sp} {o i e : Expr} {es : List Expr} {t : TA} {to : TE} {W : WX} {p pos : Pos}
    (D1 : Dx X.prog X.w X.K mg X.base k1 x1 ps1 s1) (D2 : Dx X.prog X.w X.K mg X.base k2 x2 ps2 s2) (D3 : Dx X.prog X.w X.K mg X.base k3 x3 ps3 s3) (r1 : RoomG k1 X.A) (r2 : RoomG k2 X.A) (r3 : RoomG k3 X.A) (tk : Takes X W)
    (ho : PE X (.Subscript o i p) to) (ha : PA X (e :: es) t)
    (he : starEach (e :: es) X.env = (false, eval e X.env) :: starEach es X.env := by rfl) (hpl : (backTo pos (starEach es X.env)).any (·.1) = false := by rfl) (em : mg = X.mg := by rfl) :
    PE X (.Call (.Subscript o i p) (e :: es) [] pos) (tC3 (cAt mg x1) (cAt mg x2) (cAt mg x3) s1 s2 s3 W to t) := by
  subst em
  have one : ∀ {k : Nat} {y : Str} {ps : List Str} {sp : Sp} (pins : List (Addr × Obj)) (s : Shared) (σ : L2.St) (H : Hp) (Q : VK) (u : Value), Dx X.prog X.w X.K X.mg X.base k y ps sp → RoomG k X.A → Inv X pins σ H s → RelV (.ref (cAt X.mg y)) u →
      (t σ H fun vs H1 => sp vs H1 Q (WE W σ)) → wpAny (model X.prog X.w) X.A (callWith pos u [] (backTo pos (starEach (e :: es) X.env)) (backToKw pos (keywordEach [] X.env))) (EP X pins σ Q) X.xe s := by
    intro k y ps sp pins s σ H Q u D hr I ru ht
    obtain ⟨f, fd, F, hk, hm, hb⟩ := D.ex
    rw [cAt_eq hm] at ru
    cases ru
    refine PySem.W.callWith_K (h₀ := X.base) I.ok.mod.kin hk (thn (ha.run pos pins s σ _ _ I ht) ?_) he hpl
    rintro us s2 ⟨vs, H2, I2, r, q⟩
    exact ⟨I2.kIn, run_G F hr hb (fun e s' c => passAt tk σ pins H2 s2 e s' I2 c) I2 r q⟩
  constructor
  intro pins s σ H Q I h
  rw [eval_CallSub]
  refine wpAny_bind (thn (ho.run pins s σ H _ I h) ?_)
  rintro u s1 ⟨v, H1, I1, ru, (⟨rfl, h1⟩ | ⟨rfl, h1⟩ | ⟨rfl, h1⟩)⟩
  · exact one pins s1 σ H1 Q u D1 r1 I1 ru h1
  · exact one pins s1 σ H1 Q u D2 r2 I1 ru h1
  · exact one pins s1 σ H1 Q u D3 r3 I1 ru h1
/-! ### loops over any iterable: the forms one uses -/
theorem lc_it {I : It} {n : Nat} {g : TG} {tt : TT} {te : TE} {vs : List Nat} {σ : L2.St} {H1 : Hp} {D : Addr} {Qd : Hp → Prop} (Pv : Nat → Hp → Prop) (h0 : Pv 0 (upd H1 D (.lst [])))
    (hgo : ∀ i H, i < n → Pv i H → I.go i H) (hst : ∀ H, Pv n H → I.stop n H)
    (hs : ∀ i x H H', i < n → Pv i H → I.yld i H x H' → g x (wipe σ vs) H' fun σ2 H2 => wipe σ2 vs = wipe σ vs ∧ tt σ2 H2 fun b H3 =>
      if b = true then te σ2 H3 fun y H4 => ∃ acc, H4 D = some (.lst acc) ∧ acc.length < sizeLine ∧ Pv (i + 1) (upd H4 D (.lst (acc ++ [y]))) else Pv (i + 1) H3) (hd : ∀ H, Pv n H → Qd H) :
    ∃ W : Nat → Nat → Hp → Prop, (∃ m, W 0 m (upd H1 D (.lst []))) ∧ ∀ i m H, W i m H →
      (I.stop i H ∧ Qd H) ∨ (I.go i H ∧ ∃ Nx : Hp → Prop, (∀ H', Nx H' → ∃ m', m' < m ∧ W (i + 1) m' H') ∧ ∀ x H', I.yld i H x H' → g x (wipe σ vs) H' fun σ2 H2 => wipe σ2 vs = wipe σ vs ∧ tt σ2 H2 fun b H3 =>
        if b = true then te σ2 H3 fun y H4 => ∃ acc, H4 D = some (.lst acc) ∧ acc.length < sizeLine ∧ Nx (upd H4 D (.lst (acc ++ [y]))) else Nx H3) := by
  refine ⟨fun i m H => m = n - i ∧ i ≤ n ∧ Pv i H, ⟨n, by simp, Nat.zero_le _, h0⟩, ?_⟩
  rintro i m H ⟨rfl, hi, p⟩
  by_cases hlt : i < n
  · exact .inr ⟨hgo i H hlt p, Pv (i + 1), fun H' p' => ⟨n - (i + 1), by omega, rfl, hlt, p'⟩, fun x H' y => hs i x H H' hlt p y⟩
  · have e : i = n := by omega
    subst e
    exact .inl ⟨hst H p, hd H p⟩
theorem for_it {I : It} {n : Nat} {g : TG} {tb : TS} {D : Ends} {σ : L2.St} {H : Hp} (Pv : Nat → L2.St → Hp → Prop) (h0 : Pv 0 σ H)
    (hgo : ∀ i σ H, i < n → Pv i σ H → I.go i H) (hst : ∀ σ H, Pv n σ H → I.stop n H)
    (hs : ∀ i x σ H H', i < n → Pv i σ H → I.yld i H x H' → g x σ H' fun σ2 H2 => tb { D with nx := Pv (i + 1), ct := Pv (i + 1), bk := D.nx } σ2 H2) (hd : ∀ σ H, Pv n σ H → D.nx σ H) :
    ∃ W : Nat → Nat → L2.St → Hp → Prop, (∃ m, W 0 m σ H) ∧ ∀ i m σ H, W i m σ H →
      (I.stop i H ∧ D.nx σ H) ∨ (I.go i H ∧ ∃ N : L2.St → Hp → Prop, (∀ σ' H', N σ' H' → ∃ m', m' < m ∧ W (i + 1) m' σ' H') ∧ ∀ x H', I.yld i H x H' → g x σ H' fun σ2 H2 => tb { D with nx := N, ct := N, bk := D.nx } σ2 H2) := by
  refine ⟨fun i m σ H => m = n - i ∧ i ≤ n ∧ Pv i σ H, ⟨n, by simp, Nat.zero_le _, h0⟩, ?_⟩
  rintro i m σ H ⟨rfl, hi, p⟩
  by_cases hlt : i < n
  · exact .inr ⟨hgo i σ H hlt p, Pv (i + 1), fun σ' H' p' => ⟨n - (i + 1), by omega, rfl, hlt, p'⟩, fun x H' y => hs i x σ H H' hlt p y⟩
  · have e : i = n := by omega
    subst e
    exact .inl ⟨hst σ H p, hd σ H p⟩
/-- [.. for i, x in enumerate(xs)] -/
theorem lc_enum {K : PySem.W.Frag} {a : Addr} {xs : List V} {g : TG} {tt : TT} {te : TE} {vs : List Nat} {σ : L2.St} {H1 : Hp} {D : Addr} {Qd : Hp → Prop} (Pv : Nat → Hp → Prop) (h0 : Pv 0 (upd H1 D (.lst []))) (hl : ∀ i H, i ≤ xs.length → Pv i H → SqL K H a xs)
    (hs : ∀ (i : Nat) x (T : Addr) H, xs[i]? = some x → Pv i H → H T = none → g (.ref T) (wipe σ vs) (upd H T (.tup [.int i, x])) fun σ2 H2 => wipe σ2 vs = wipe σ vs ∧ tt σ2 H2 fun b H3 =>
      if b = true then te σ2 H3 fun y H4 => ∃ acc, H4 D = some (.lst acc) ∧ acc.length < sizeLine ∧ Pv (i + 1) (upd H4 D (.lst (acc ++ [y]))) else Pv (i + 1) H3) (hd : ∀ H, Pv xs.length H → Qd H) :
    ∃ W : Nat → Nat → Hp → Prop, (∃ m, W 0 m (upd H1 D (.lst []))) ∧ ∀ i m H, W i m H →
      ((Ite K a).stop i H ∧ Qd H) ∨ ((Ite K a).go i H ∧ ∃ Nx : Hp → Prop, (∀ H', Nx H' → ∃ m', m' < m ∧ W (i + 1) m' H') ∧ ∀ x H', (Ite K a).yld i H x H' → g x (wipe σ vs) H' fun σ2 H2 => wipe σ2 vs = wipe σ vs ∧ tt σ2 H2 fun b H3 =>
        if b = true then te σ2 H3 fun y H4 => ∃ acc, H4 D = some (.lst acc) ∧ acc.length < sizeLine ∧ Nx (upd H4 D (.lst (acc ++ [y]))) else Nx H3) := by
  refine lc_it (I := Ite K a) (n := xs.length) Pv h0 (fun i H hi p => ⟨xs, xs[i], hl i H (Nat.le_of_lt hi) p, List.getElem?_eq_getElem hi⟩) (fun H p => ⟨xs, hl _ H (Nat.le_refl _) p, Nat.le_refl _⟩) ?_ hd
  rintro i x H H' hi p ⟨T, z, rfl, hT, rfl, hz⟩
  exact hs i z T H (hz xs (hl i H (Nat.le_of_lt hi) p)) p hT
theorem for_enum' {K : PySem.W.Frag} {a : Addr} {xs : List V} {g : TG} {tb : TS} {D : Ends} {σ : L2.St} {H : Hp} (Pv : Nat → L2.St → Hp → Prop) (h0 : Pv 0 σ H) (hl : ∀ i σ H, i ≤ xs.length → Pv i σ H → SqL K H a xs)
    (hs : ∀ (i : Nat) x (T : Addr) σ H, xs[i]? = some x → Pv i σ H → H T = none → g (.ref T) σ (upd H T (.tup [.int i, x])) fun σ2 H2 => tb { D with nx := Pv (i + 1), ct := Pv (i + 1), bk := D.nx } σ2 H2) (hd : ∀ σ H, Pv xs.length σ H → D.nx σ H) :
    ∃ W : Nat → Nat → L2.St → Hp → Prop, (∃ m, W 0 m σ H) ∧ ∀ i m σ H, W i m σ H →
      ((Ite K a).stop i H ∧ D.nx σ H) ∨ ((Ite K a).go i H ∧ ∃ N : L2.St → Hp → Prop, (∀ σ' H', N σ' H' → ∃ m', m' < m ∧ W (i + 1) m' σ' H') ∧ ∀ x H', (Ite K a).yld i H x H' → g x σ H' fun σ2 H2 => tb { D with nx := N, ct := N, bk := D.nx } σ2 H2) := by
  refine for_it (I := Ite K a) (n := xs.length) Pv h0 (fun i σ H hi p => ⟨xs, xs[i], hl i σ H (Nat.le_of_lt hi) p, List.getElem?_eq_getElem hi⟩) (fun σ H p => ⟨xs, hl _ σ H (Nat.le_refl _) p, Nat.le_refl _⟩) ?_ hd
  rintro i x σ H H' hi p ⟨T, z, rfl, hT, rfl, hz⟩
  exact hs i z T σ H (hz xs (hl i σ H (Nat.le_of_lt hi) p)) p hT
/-- xs[i] of a list, as a value -/
theorem get_listI {X : Cx} : PGet X (rIxL X.K) := by
  intro pins s σ H o i ov iv Q I ro ri h
  obtain ⟨p, xs, k, z, rfl, rfl, hq, he, q⟩ := h
  cases ro
  obtain ⟨t, rfl⟩ := ri
  obtain ⟨its, r, pl, hz⟩ := I.list hq
  obtain ⟨j, h1, h2, h3, h4, h5⟩ := atI_get he
  obtain ⟨w, ew, rw'⟩ := r.get h2
  have hl := r.length
  have hn := line63
  have fin : EP X pins σ Q w s := ⟨z, H, I, rw', q⟩
  by_cases h0 : 0 ≤ k
  · have hj : k.toNat = j := by
      rw [seqIndex_of h0 h5] at h1
      exact Option.some.inj h1
    exact wpAny_getItem_list pl.isList h0 (by omega) (by rw [hj]; simpa using ew) fin
  · have hj : (k + (its.toArray.size : Int)).toNat = j := by
      rw [seqIndex_neg (by omega) h4] at h1
      rw [List.size_toArray, ← hl]
      exact Option.some.inj h1
    exact wpAny_getItem_list_neg pl.isList (by omega) (by rw [List.size_toArray] <;> omega) (by omega) (by rw [hj]; simpa using ew) fin
/-! ### data: a deed -/
structure Dd where
  add : Int
  low : Option Int
  high : Option Int
def oV : Option Int → V
  | none => .non
  | some i => .int i
def Dd.vs (d : Dd) : List V := [.int d.add, oV d.low, oV d.high]
def Dd.at_ (K : PySem.W.Frag) (H : Hp) (a : Addr) (d : Dd) : Prop := SqT K H a d.vs
/-- the ends stand right -/
def Dd.Ok (d : Dd) : Prop := ∀ l h, d.low = some l → d.high = some h → l < h ∨ (l = h ∧ d.add = 0)
def up (o : Option Int) (f : Int) : Int := match o with | none => f | some l => if f > l then f else l
def dn (o : Option Int) (f : Int) : Int := match o with | none => f | some h => if f < h then f else h
def Dd.ap (d : Dd) (v : Int) : Int := dn d.high (up d.low (v + d.add))
def hi (o : Option Int) (f : Int) : Int := match o with | none => f | some h => if f > h then h else f
def mk (d : Dd) (v : Int) : Int := match d.low with | none => hi d.high (v + d.add) | some l => if v + d.add < l then l else hi d.high (v + d.add)
theorem mk_eq {d : Dd} (ok : d.Ok) (v : Int) : mk d v = d.ap v := by
  obtain ⟨add, low, high⟩ := d
  have ok' := ok
  unfold Dd.Ok at ok'
  cases low with
  | none =>
    cases high with
    | none => rfl
    | some h =>
      show (if v + add > h then h else v + add) = if v + add < h then v + add else h
      by_cases c : v + add > h
      · rw [if_pos c, if_neg (by omega)]
      · rw [if_neg c]
        by_cases c2 : v + add < h
        · rw [if_pos c2]
        · rw [if_neg c2]; omega
  | some l =>
    cases high with
    | none =>
      show (if v + add < l then l else v + add) = if v + add > l then v + add else l
      by_cases c : v + add < l
      · rw [if_pos c, if_neg (by omega)]
      · rw [if_neg c]
        by_cases c2 : v + add > l
        · rw [if_pos c2]
        · rw [if_neg c2]; omega
    | some h =>
      have := ok' l h rfl rfl
      show (if v + add < l then l else if v + add > h then h else v + add) = if (if v + add > l then v + add else l) < h then (if v + add > l then v + add else l) else h
      by_cases c : v + add < l
      · rw [if_pos c, if_neg (show ¬ v + add > l by omega)]
        by_cases c2 : l < h
        · rw [if_pos c2]
        · rw [if_neg c2]; omega
      · rw [if_neg c]
        have e : (if v + add > l then v + add else l) = v + add := by
          by_cases c2 : v + add > l
          · rw [if_pos c2]
          · rw [if_neg c2]; omega
        rw [e]
        by_cases c2 : v + add > h
        · rw [if_pos c2, if_neg (by omega)]
        · rw [if_neg c2]
          by_cases c3 : v + add < h
          · rw [if_pos c3]
          · rw [if_neg c3]; omega
/-- all numbers of a deed are within b -/
def Dd.In (b : Int) (d : Dd) : Prop := -b ≤ d.add ∧ d.add ≤ b ∧ (∀ l, d.low = some l → -b ≤ l ∧ l ≤ b) ∧ ∀ l, d.high = some l → -b ≤ l ∧ l ≤ b
theorem in_mk {b add : Int} {low high : Option Int} (h1 : -b ≤ add) (h2 : add ≤ b) (hl : ∀ l, low = some l → -b ≤ l ∧ l ≤ b) (hh : ∀ l, high = some l → -b ≤ l ∧ l ≤ b) : Dd.In b ⟨add, low, high⟩ := ⟨h1, h2, hl, hh⟩
theorem in_none {b : Int} : ∀ l, (none : Option Int) = some l → -b ≤ l ∧ l ≤ b := fun _ h => nomatch h
theorem in_some {b x : Int} (h1 : -b ≤ x) (h2 : x ≤ b) : ∀ l, some x = some l → -b ≤ l ∧ l ≤ b := fun l h => by cases h; exact ⟨h1, h2⟩
theorem ap_in {b c : Int} {d : Dd} {v : Int} (h : d.In b) (h1 : -c ≤ v) (h2 : v ≤ c) (h0 : 0 ≤ c) : -(b + c) ≤ d.ap v ∧ d.ap v ≤ b + c := by
  obtain ⟨a1, a2, hl, hh⟩ := h
  unfold Dd.ap dn up
  cases el : d.low with
  | none =>
    cases eh : d.high with
    | none => dsimp only; omega
    | some k => have := hh k eh; dsimp only; split <;> omega
  | some l =>
    have := hl l el
    cases eh : d.high with
    | none => dsimp only; split <;> omega
    | some k => have := hh k eh; dsimp only; split <;> split <;> omega
theorem fits {i : Int} (h1 : -(10 ^ 40) ≤ i) (h2 : i ≤ 10 ^ 40) : i.natAbs.log2 < 1920 := by
  refine log_lt (by decide) (Nat.lt_of_le_of_lt (m := 10 ^ 40) (by omega) (by decide))
theorem menu7 : ∀ j : Nat, j < 7 → ∃ z : Int, ([.int 3, .int 5, .int 11, .int 17, .int 29, .int 37, .int 41] : List V)[j]? = some (.int z) ∧ 0 < z ∧ z ≤ 41
  | 0, _ => ⟨_, rfl, by decide, by decide⟩
  | 1, _ => ⟨_, rfl, by decide, by decide⟩
  | 2, _ => ⟨_, rfl, by decide, by decide⟩
  | 3, _ => ⟨_, rfl, by decide, by decide⟩
  | 4, _ => ⟨_, rfl, by decide, by decide⟩
  | 5, _ => ⟨_, rfl, by decide, by decide⟩
  | 6, _ => ⟨_, rfl, by decide, by decide⟩
  | n + 7, h => absurd h (by omega)
theorem menu6 : ∀ j : Nat, j < 6 → ∃ z : Int, ([.int 4, .int 12, .int 1000, .int (10 ^ Int.toNat 9), .int (10 ^ Int.toNat 29), .int (10 ^ Int.toNat 29)] : List V)[j]? = some (.int z) ∧ 1 ≤ z ∧ z ≤ 10 ^ 29
  | 0, _ => ⟨_, rfl, by decide, by decide⟩
  | 1, _ => ⟨_, rfl, by decide, by decide⟩
  | 2, _ => ⟨_, rfl, by decide, by decide⟩
  | 3, _ => ⟨_, rfl, by decide, by decide⟩
  | 4, _ => ⟨_, rfl, by decide, by decide⟩
  | 5, _ => ⟨_, rfl, by decide, by decide⟩
  | n + 6, h => absurd h (by omega)
def PotAt (H : Hp) (p : Addr) : Prop := ∃ a b : Int, H p = some (.lst [.int a, .int b]) ∧ 0 ≤ a ∧ 0 ≤ b ∧ b < 2 ^ 40
theorem PotAt.same {H H' : Hp} {p : Addr} (e : Same H H') (h : PotAt H p) : PotAt H' p := by
  obtain ⟨a, b, h1, h2⟩ := h
  exact ⟨a, b, e _ _ h1, h2⟩
def DeedArg (K : PySem.W.Frag) (H : Hp) (a : Addr) (d : Dd) : Prop := TyX K H (.ref a) (.type "tuple") ∧ SqT K H a d.vs ∧ d.Ok
def Dz (H : Hp) (a : Addr) (d : Dd) : Prop := H a = some (.tup d.vs) ∧ d.In (10 ^ 29 + 3) ∧ d.Ok
theorem Dz.arg {K : PySem.W.Frag} {H : Hp} {a : Addr} {d : Dd} (h : Dz H a d) : DeedArg K H a d := ⟨.base (.tup h.1), SqT.of h.1, h.2.2⟩
theorem Dz.same {H H' : Hp} {a : Addr} {d : Dd} (e : Same H H') (h : Dz H a d) : Dz H' a d := ⟨e _ _ h.1, h.2⟩
def look : Dd := ⟨0, none, none⟩
theorem look_ok : look.Ok := fun _ _ h => nomatch h
theorem look_in {b : Int} (h : 0 ≤ b) : look.In b := in_mk (by omega) (by omega) in_none in_none
theorem pot_ne {H : Hp} {p a : Addr} (h : PotAt H p) (n : H a = none) : a ≠ p := fun z => by obtain ⟨_, _, h1, _⟩ := h; rw [← z, n] at h1; cases h1
/-! ### two deeds as one -/
def wholeD (add : Int) (low high : Option Int) : Dd := if low ≠ none ∧ low = high then ⟨0, low, high⟩ else ⟨add, low, high⟩
theorem wholeD_low {add : Int} {low high : Option Int} : (wholeD add low high).low = low := by unfold wholeD; split <;> rfl
theorem wholeD_high {add : Int} {low high : Option Int} : (wholeD add low high).high = high := by unfold wholeD; split <;> rfl
theorem wholeD_add {add : Int} {low high : Option Int} : (wholeD add low high).add = if low ≠ none ∧ low = high then 0 else add := by unfold wholeD; split <;> rfl
def endBeh (b : Dd) (o p : Option Int) : Option Int := match o with | none => p | some l => some (b.ap l)
def beh (a b : Dd) : Dd := wholeD (a.add + b.add) (endBeh b a.low b.low) (endBeh b a.high b.high)
theorem up_mono {o : Option Int} {x y : Int} (h : x ≤ y) : up o x ≤ up o y := by
  cases o with
  | none => exact h
  | some l =>
    show (if x > l then x else l) ≤ (if y > l then y else l)
    split <;> split <;> omega
theorem dn_mono {o : Option Int} {x y : Int} (h : x ≤ y) : dn o x ≤ dn o y := by
  cases o with
  | none => exact h
  | some l =>
    show (if x < l then x else l) ≤ (if y < l then y else l)
    split <;> split <;> omega
theorem ap_mono (d : Dd) {x y : Int} (h : x ≤ y) : d.ap x ≤ d.ap y := dn_mono (up_mono (by omega))
/-- what is made, by the four ways -/
theorem ap_nn (d : Dd) (v : Int) (h1 : d.low = none) (h2 : d.high = none) : d.ap v = v + d.add := by unfold Dd.ap; rw [h1, h2] <;> rfl
theorem ap_sn (d : Dd) (v l : Int) (h1 : d.low = some l) (h2 : d.high = none) : d.ap v = if v + d.add > l then v + d.add else l := by unfold Dd.ap; rw [h1, h2] <;> rfl
theorem ap_ns (d : Dd) (v h : Int) (h1 : d.low = none) (h2 : d.high = some h) : d.ap v = if v + d.add < h then v + d.add else h := by unfold Dd.ap; rw [h1, h2] <;> rfl
theorem ap_ss (d : Dd) (v l h : Int) (h1 : d.low = some l) (h2 : d.high = some h) : d.ap v = if (if v + d.add > l then v + d.add else l) < h then (if v + d.add > l then v + d.add else l) else h := by unfold Dd.ap; rw [h1, h2] <;> rfl
/-- facts for omega -/
theorem ap_cases (d : Dd) (ok : d.Ok) (v : Int) :
    (∀ l, d.low = some l → l ≤ d.ap v ∧ (v + d.add ≤ l → d.ap v = l)) ∧ (∀ h, d.high = some h → d.ap v ≤ h ∧ (h ≤ v + d.add → d.ap v = h)) ∧
    ((d.low = none ∨ ∃ l, d.low = some l ∧ l ≤ v + d.add) → (d.high = none ∨ ∃ h, d.high = some h ∧ v + d.add ≤ h) → d.ap v = v + d.add) := by
  cases e1 : d.low with
  | none =>
    cases e2 : d.high with
    | none =>
      rw [ap_nn d v e1 e2]
      exact ⟨fun _ h => (nomatch h), fun _ h => (nomatch h), fun _ _ => rfl⟩
    | some h =>
      rw [ap_ns d v h e1 e2]
      refine ⟨fun _ h => (nomatch h), fun k hk => ?_, fun _ h2 => ?_⟩
      · cases hk; split <;> omega
      · rcases h2 with h2 | ⟨k, hk, h2⟩
        · cases h2
        · cases hk; split <;> omega
  | some l =>
    cases e2 : d.high with
    | none =>
      rw [ap_sn d v l e1 e2]
      refine ⟨fun k hk => ?_, fun _ h => (nomatch h), fun h1 _ => ?_⟩
      · cases hk; split <;> omega
      · rcases h1 with h1 | ⟨k, hk, h1⟩
        · cases h1
        · cases hk; split <;> omega
    | some h =>
      have o := ok l h e1 e2
      rw [ap_ss d v l h e1 e2]
      refine ⟨fun k hk => ?_, fun k hk => ?_, fun h1 h2 => ?_⟩
      · cases hk
        by_cases c : v + d.add > l
        · rw [if_pos c]; split <;> omega
        · rw [if_neg c]; split <;> omega
      · cases hk
        by_cases c : v + d.add > l
        · rw [if_pos c]; split <;> omega
        · rw [if_neg c]; split <;> omega
      · rcases h1 with h1 | ⟨k, hk, h1⟩
        · cases h1
        rcases h2 with h2 | ⟨k', hk', h2⟩
        · cases h2
        cases hk; cases hk'
        by_cases c : v + d.add > l
        · rw [if_pos c]; split <;> omega
        · rw [if_neg c]; split <;> omega
theorem beh_ok {a b : Dd} (ha : a.Ok) (hb : b.Ok) : (beh a b).Ok := by
  intro l h h1 h2
  unfold beh at h1 h2 ⊢
  rw [wholeD_low] at h1
  rw [wholeD_high] at h2
  rw [wholeD_add]
  have key : l ≤ h := by
    unfold endBeh at h1 h2
    cases e1 : a.low with
    | none =>
      rw [e1] at h1
      cases e2 : a.high with
      | none =>
        rw [e2] at h2
        have := hb l h h1 h2
        omega
      | some k =>
        rw [e2] at h2
        cases h2
        exact ((ap_cases b hb k).1 l h1).1
    | some j =>
      rw [e1] at h1
      cases h1
      cases e2 : a.high with
      | none =>
        rw [e2] at h2
        exact ((ap_cases b hb j).2.1 h h2).1
      | some k =>
        rw [e2] at h2
        cases h2
        have := ha j k e1 e2
        exact ap_mono b (by omega)
  by_cases c : l = h
  · right
    refine ⟨c, if_pos ⟨by rw [h1]; exact Option.some_ne_none l, by rw [h1, h2, c]⟩⟩
  · left; omega
/-- the ends of a deed -/
theorem ap_low {d : Dd} (ok : d.Ok) {l v : Int} (h : d.low = some l) (hv : v + d.add ≤ l) : d.ap v = l := ((ap_cases d ok v).1 l h).2 hv
theorem ap_high {d : Dd} (ok : d.Ok) {l v : Int} (h : d.high = some l) (hv : l ≤ v + d.add) : d.ap v = l := ((ap_cases d ok v).2.1 l h).2 hv
theorem whole_ap {add : Int} {low high : Option Int} {v w : Int} (hl : ∀ l, low = some l → l ≤ w) (hh : ∀ h, high = some h → w ≤ h)
    (h1 : (∀ l, low = some l → v + add ≤ l → w = l)) (h2 : (∀ h, high = some h → h ≤ v + add → w = h))
    (h3 : (low = none ∨ ∃ l, low = some l ∧ l ≤ v + add) → (high = none ∨ ∃ h, high = some h ∧ v + add ≤ h) → w = v + add) : (wholeD add low high).ap v = w := by
  cases e1 : low with
  | none =>
    have e3 : wholeD add none high = ⟨add, none, high⟩ := by unfold wholeD; rw [if_neg (fun z => z.1 rfl)]
    rw [e3]
    cases e2 : high with
    | none => rw [ap_nn _ _ rfl rfl]; exact (h3 (.inl e1) (.inl e2)).symm
    | some h =>
      rw [ap_ns _ _ h rfl rfl]
      show (if v + add < h then v + add else h) = w
      have a2 := h2 h e2
      have a3 := h3 (.inl e1)
      split
      · exact (a3 (.inr ⟨h, e2, by omega⟩)).symm
      · exact (a2 (by omega)).symm
  | some l =>
    have b1 := hl l e1
    cases e2 : high with
    | none =>
      have e3 : wholeD add (some l) none = ⟨add, some l, none⟩ := by unfold wholeD; rw [if_neg (fun z => nomatch z.2)]
      rw [e3, ap_sn _ _ l rfl rfl]
      show (if v + add > l then v + add else l) = w
      have a1 := h1 l e1
      split
      · exact (h3 (.inr ⟨l, e1, by omega⟩) (.inl e2)).symm
      · exact (a1 (by omega)).symm
    | some h =>
      have b2 := hh h e2
      by_cases c : l = h
      · subst c
        have e3 : wholeD add (some l) (some l) = ⟨0, some l, some l⟩ := by unfold wholeD; rw [if_pos ⟨Option.some_ne_none l, rfl⟩]
        rw [e3, ap_ss _ _ l l rfl rfl]
        split <;> omega
      · have e3 : wholeD add (some l) (some h) = ⟨add, some l, some h⟩ := by unfold wholeD; rw [if_neg (fun z => c (Option.some.inj z.2))]
        rw [e3, ap_ss _ _ l h rfl rfl]
        show (if (if v + add > l then v + add else l) < h then (if v + add > l then v + add else l) else h) = w
        have a1 := h1 l e1
        have a2 := h2 h e2
        by_cases c1 : v + add > l
        · rw [if_pos c1]
          split
          · exact (h3 (.inr ⟨l, e1, by omega⟩) (.inr ⟨h, e2, by omega⟩)).symm
          · exact (a2 (by omega)).symm
        · rw [if_neg c1]
          have := a1 (by omega)
          split <;> omega
theorem beh_ap {a b : Dd} (ha : a.Ok) (hb : b.Ok) (v : Int) : (beh a b).ap v = b.ap (a.ap v) := by
  obtain ⟨A1, A2, A3⟩ := ap_cases a ha v
  obtain ⟨B1, B2, B3⟩ := ap_cases b hb (a.ap v)
  have P3 : ∀ l, endBeh b a.low b.low = some l → v + (a.add + b.add) ≤ l → b.ap (a.ap v) = l := by
    intro l hl hv
    unfold endBeh at hl
    cases e : a.low with
    | none =>
      rw [e] at hl
      refine (B1 l hl).2 ?_
      cases e2 : a.high with
      | none => rw [A3 (.inl e) (.inl e2)]; omega
      | some k =>
        by_cases c : v + a.add ≤ k
        · rw [A3 (.inl e) (.inr ⟨k, e2, c⟩)]; omega
        · rw [(A2 k e2).2 (by omega)]; omega
    | some j =>
      rw [e] at hl
      cases hl
      -- v + a.add + b.add ≤ b.ap j
      by_cases c : v + a.add ≤ j
      · rw [(A1 j e).2 c]
      · have m : b.ap j ≤ b.ap (a.ap v) := ap_mono b (A1 j e).1
        have n : b.ap (a.ap v) ≤ b.ap (v + a.add) := by
          refine ap_mono b ?_
          cases e2 : a.high with
          | none => rw [A3 (.inr ⟨j, e, by omega⟩) (.inl e2)]; omega
          | some k =>
            by_cases c : v + a.add ≤ k
            · rw [A3 (.inr ⟨j, e, by omega⟩) (.inr ⟨k, e2, c⟩)]; omega
            · rw [(A2 k e2).2 (by omega)]; omega
        -- b at v + a.add is at most max of its sum and its low end
        obtain ⟨C1, C2, C3⟩ := ap_cases b hb (v + a.add)
        obtain ⟨D1, D2, D3⟩ := ap_cases b hb j
        cases f1 : b.low with
        | none =>
          cases f2 : b.high with
          | none => have := C3 (.inl f1) (.inl f2); have := D3 (.inl f1) (.inl f2); omega
          | some k =>
            have := C2 k f2; have := D2 k f2
            by_cases c3 : v + a.add + b.add ≤ k
            · have := C3 (.inl f1) (.inr ⟨k, f2, c3⟩); have := D3 (.inl f1) (.inr ⟨k, f2, by omega⟩); omega
            · omega
        | some i =>
          have := C1 i f1; have := D1 i f1
          cases f2 : b.high with
          | none =>
            by_cases c3 : i ≤ v + a.add + b.add
            · have := C3 (.inr ⟨i, f1, c3⟩) (.inl f2)
              by_cases c4 : i ≤ j + b.add
              · have := D3 (.inr ⟨i, f1, c4⟩) (.inl f2); omega
              · omega
            · omega
          | some k =>
            have := C2 k f2; have := D2 k f2
            by_cases c3 : i ≤ v + a.add + b.add
            · by_cases c5 : v + a.add + b.add ≤ k
              · have := C3 (.inr ⟨i, f1, c3⟩) (.inr ⟨k, f2, c5⟩)
                by_cases c4 : i ≤ j + b.add
                · have := D3 (.inr ⟨i, f1, c4⟩) (.inr ⟨k, f2, by omega⟩); omega
                · omega
              · omega
            · omega
  have P4 : ∀ h, endBeh b a.high b.high = some h → h ≤ v + (a.add + b.add) → b.ap (a.ap v) = h := by
    intro h hh hv
    unfold endBeh at hh
    cases e : a.high with
    | none =>
      rw [e] at hh
      refine (B2 h hh).2 ?_
      cases e2 : a.low with
      | none => rw [A3 (.inl e2) (.inl e)]; omega
      | some k =>
        by_cases c : k ≤ v + a.add
        · rw [A3 (.inr ⟨k, e2, c⟩) (.inl e)]; omega
        · rw [(A1 k e2).2 (by omega)]; omega
    | some j =>
      rw [e] at hh
      cases hh
      by_cases c : j ≤ v + a.add
      · rw [(A2 j e).2 c]
      · have m : b.ap (a.ap v) ≤ b.ap j := ap_mono b (A2 j e).1
        have n : b.ap (v + a.add) ≤ b.ap (a.ap v) := by
          refine ap_mono b ?_
          cases e2 : a.low with
          | none => rw [A3 (.inl e2) (.inr ⟨j, e, by omega⟩)]; omega
          | some k =>
            by_cases c : k ≤ v + a.add
            · rw [A3 (.inr ⟨k, e2, c⟩) (.inr ⟨j, e, by omega⟩)]; omega
            · rw [(A1 k e2).2 (by omega)]; omega
        obtain ⟨C1, C2, C3⟩ := ap_cases b hb (v + a.add)
        obtain ⟨D1, D2, D3⟩ := ap_cases b hb j
        cases f1 : b.high with
        | none =>
          cases f2 : b.low with
          | none => have := C3 (.inl f2) (.inl f1); have := D3 (.inl f2) (.inl f1); omega
          | some k =>
            have := C1 k f2; have := D1 k f2
            by_cases c3 : k ≤ v + a.add + b.add
            · have := C3 (.inr ⟨k, f2, c3⟩) (.inl f1); have := D3 (.inr ⟨k, f2, by omega⟩) (.inl f1); omega
            · omega
        | some i =>
          have := C2 i f1; have := D2 i f1
          cases f2 : b.low with
          | none =>
            by_cases c3 : v + a.add + b.add ≤ i
            · have := C3 (.inl f2) (.inr ⟨i, f1, c3⟩)
              by_cases c4 : j + b.add ≤ i
              · have := D3 (.inl f2) (.inr ⟨i, f1, c4⟩); omega
              · omega
            · omega
          | some k =>
            have := C1 k f2; have := D1 k f2
            by_cases c3 : v + a.add + b.add ≤ i
            · by_cases c5 : k ≤ v + a.add + b.add
              · have := C3 (.inr ⟨k, f2, c5⟩) (.inr ⟨i, f1, c3⟩)
                by_cases c4 : j + b.add ≤ i
                · have := D3 (.inr ⟨k, f2, by omega⟩) (.inr ⟨i, f1, c4⟩); omega
                · omega
              · omega
            · omega
  unfold beh
  refine whole_ap (fun l hl => ?_) (fun h hh => ?_) P3 P4 (fun h1 h2 => ?_)
  · unfold endBeh at hl
    cases e : a.low with
    | none => rw [e] at hl; exact (B1 l hl).1
    | some j => rw [e] at hl; cases hl; exact ap_mono b (A1 j e).1
  · unfold endBeh at hh
    cases e : a.high with
    | none => rw [e] at hh; exact (B2 h hh).1
    | some j => rw [e] at hh; cases hh; exact ap_mono b (A2 j e).1
  · -- between the ends both add
    by_cases s1 : ∃ l, endBeh b a.low b.low = some l ∧ v + (a.add + b.add) ≤ l
    · obtain ⟨l, s1, s2⟩ := s1
      rw [P3 l s1 s2]
      rcases h1 with h1 | ⟨l', h1, h4⟩
      · rw [s1] at h1; cases h1
      · rw [s1] at h1; cases h1; omega
    by_cases s2 : ∃ l, endBeh b a.high b.high = some l ∧ l ≤ v + (a.add + b.add)
    · obtain ⟨l, s2, s3⟩ := s2
      rw [P4 l s2 s3]
      rcases h2 with h2 | ⟨l', h2, h4⟩
      · rw [s2] at h2; cases h2
      · rw [s2] at h2; cases h2; omega
    have h1s : ∀ l, endBeh b a.low b.low = some l → l < v + (a.add + b.add) := fun l hl => Int.not_le.mp fun z => s1 ⟨l, hl, z⟩
    have h2s : ∀ l, endBeh b a.high b.high = some l → v + (a.add + b.add) < l := fun l hl => Int.not_le.mp fun z => s2 ⟨l, hl, z⟩
    have a1 : a.low = none ∨ ∃ l, a.low = some l ∧ l ≤ v + a.add := by
      cases e : a.low with
      | none => exact .inl rfl
      | some j =>
        right
        refine ⟨j, rfl, ?_⟩
        rcases h1 with h1 | ⟨l, h1, h4⟩
        · unfold endBeh at h1; rw [e] at h1; cases h1
        have st := h1s l h1
        unfold endBeh at h1; rw [e] at h1; cases h1
        by_cases c : j ≤ v + a.add
        · exact c
        obtain ⟨D1, D2, D3⟩ := ap_cases b hb j
        exfalso
        cases f2 : b.high with
        | none =>
          cases f1 : b.low with
          | none => have := D3 (.inl f1) (.inl f2); omega
          | some i => have := D1 i f1; by_cases c4 : i ≤ j + b.add; (have := D3 (.inr ⟨i, f1, c4⟩) (.inl f2); omega); omega
        | some k =>
          have := D2 k f2
          by_cases c5 : j + b.add ≤ k
          · cases f1 : b.low with
            | none => have := D3 (.inl f1) (.inr ⟨k, f2, c5⟩); omega
            | some i => have := D1 i f1; by_cases c4 : i ≤ j + b.add; (have := D3 (.inr ⟨i, f1, c4⟩) (.inr ⟨k, f2, c5⟩); omega); omega
          · have e5 : b.ap j = k := this.2 (by omega)
            -- the upper end is met: then high of both is k
            rcases h2 with h2 | ⟨h, h2, h6⟩
            · unfold endBeh at h2; cases e7 : a.high with
              | none => rw [e7] at h2; rw [f2] at h2; cases h2
              | some m => rw [e7] at h2; cases h2
            · unfold endBeh at h2; cases e7 : a.high with
              | none => rw [e7] at h2; rw [f2] at h2; cases h2; omega
              | some m =>
                rw [e7] at h2; cases h2
                have o := ha j m e e7
                have q1 := ap_mono b (show j ≤ m by omega)
                have q2 := ((ap_cases b hb m).2.1 k f2).1
                omega
    have a2 : a.high = none ∨ ∃ l, a.high = some l ∧ v + a.add ≤ l := by
      cases e : a.high with
      | none => exact .inl rfl
      | some j =>
        right
        refine ⟨j, rfl, ?_⟩
        rcases h2 with h2 | ⟨l, h2, h4⟩
        · unfold endBeh at h2; rw [e] at h2; cases h2
        have st := h2s l h2
        unfold endBeh at h2; rw [e] at h2; cases h2
        by_cases c : v + a.add ≤ j
        · exact c
        obtain ⟨D1, D2, D3⟩ := ap_cases b hb j
        exfalso
        cases f2 : b.low with
        | none =>
          cases f1 : b.high with
          | none => have := D3 (.inl f2) (.inl f1); omega
          | some i => have := D2 i f1; by_cases c4 : j + b.add ≤ i; (have := D3 (.inl f2) (.inr ⟨i, f1, c4⟩); omega); omega
        | some k =>
          have := D1 k f2
          by_cases c5 : k ≤ j + b.add
          · cases f1 : b.high with
            | none => have := D3 (.inr ⟨k, f2, c5⟩) (.inl f1); omega
            | some i => have := D2 i f1; by_cases c4 : j + b.add ≤ i; (have := D3 (.inr ⟨k, f2, c5⟩) (.inr ⟨i, f1, c4⟩); omega); omega
          · have e5 : b.ap j = k := this.2 (by omega)
            rcases h1 with h1 | ⟨h, h1, h6⟩
            · unfold endBeh at h1; cases e7 : a.low with
              | none => rw [e7] at h1; rw [f2] at h1; cases h1
              | some m => rw [e7] at h1; cases h1
            · unfold endBeh at h1; cases e7 : a.low with
              | none => rw [e7] at h1; rw [f2] at h1; cases h1; omega
              | some m =>
                rw [e7] at h1; cases h1
                have o := ha m j e7 e
                have q1 := ap_mono b (show m ≤ j by omega)
                have q2 := ((ap_cases b hb m).1 k f2).1
                omega
    have ea := A3 a1 a2
    rw [ea] at B1 B2 B3 ⊢
    have b1 : b.low = none ∨ ∃ l, b.low = some l ∧ l ≤ v + a.add + b.add := by
      cases f : b.low with
      | none => exact .inl rfl
      | some i =>
        refine .inr ⟨i, rfl, ?_⟩
        rcases h1 with h1 | ⟨l, h1, h4⟩
        · unfold endBeh at h1; cases e7 : a.low with
          | none => rw [e7] at h1; rw [f] at h1; cases h1
          | some m => rw [e7] at h1; cases h1
        · unfold endBeh at h1; cases e7 : a.low with
          | none => rw [e7] at h1; rw [f] at h1; cases h1; omega
          | some m => rw [e7] at h1; cases h1; have := ((ap_cases b hb m).1 i f).1; omega
    have b2 : b.high = none ∨ ∃ l, b.high = some l ∧ v + a.add + b.add ≤ l := by
      cases f : b.high with
      | none => exact .inl rfl
      | some i =>
        refine .inr ⟨i, rfl, ?_⟩
        rcases h2 with h2 | ⟨l, h2, h4⟩
        · unfold endBeh at h2; cases e7 : a.high with
          | none => rw [e7] at h2; rw [f] at h2; cases h2
          | some m => rw [e7] at h2; cases h2
        · unfold endBeh at h2; cases e7 : a.high with
          | none => rw [e7] at h2; rw [f] at h2; cases h2; omega
          | some m => rw [e7] at h2; cases h2; have := ((ap_cases b hb m).2.1 i f).1; omega
    rw [B3 b1 b2]; omega
theorem beh_in {a b : Dd} {x y : Int} (ha : a.In x) (hb : b.In y) (h0 : 0 ≤ x) (h1 : 0 ≤ y) : (beh a b).In (y + x) := by
  obtain ⟨a1, a2, a3, a4⟩ := ha
  have hb' := hb
  obtain ⟨b1, b2, b3, b4⟩ := hb
  refine ⟨?_, ?_, fun l hl => ?_, fun l hl => ?_⟩
  · unfold beh; rw [wholeD_add]; split <;> omega
  · unfold beh; rw [wholeD_add]; split <;> omega
  · unfold beh at hl; rw [wholeD_low] at hl; unfold endBeh at hl
    cases e : a.low with
    | none => rw [e] at hl; have := b3 l hl; omega
    | some j => rw [e] at hl; cases hl; exact ap_in hb' (a3 j e).1 (a3 j e).2 h0
  · unfold beh at hl; rw [wholeD_high] at hl; unfold endBeh at hl
    cases e : a.high with
    | none => rw [e] at hl; have := b4 l hl; omega
    | some j => rw [e] at hl; cases hl; exact ap_in hb' (a4 j e).1 (a4 j e).2 h0
/-- far out a deed shows its ends -/
theorem far_low {d : Dd} {b F : Int} (ok : d.Ok) (i : d.In b) (hF : 3 * b + 2 ≤ F) (h0 : 0 ≤ b) : (if d.ap (-F - 1) = d.ap (-F) then some (d.ap (-F)) else none) = d.low := by
  obtain ⟨i1, i2, i3, i4⟩ := i
  cases e : d.low with
  | some l =>
    have := i3 l e
    rw [ap_low ok e (show -F - 1 + d.add ≤ l by omega), ap_low ok e (show -F + d.add ≤ l by omega), if_pos rfl]
  | none =>
    have k : ∀ v : Int, v ≤ -F → d.ap v = v + d.add := fun v hv => by
      refine (ap_cases d ok v).2.2 (.inl e) ?_
      cases f : d.high with
      | none => exact .inl rfl
      | some h => have := i4 h f; exact .inr ⟨h, rfl, by omega⟩
    rw [k _ (by omega), k _ (by omega), if_neg (by omega)]
theorem far_high {d : Dd} {b F : Int} (ok : d.Ok) (i : d.In b) (hF : 3 * b + 2 ≤ F) (h0 : 0 ≤ b) : (if d.ap F = d.ap (F + 1) then some (d.ap F) else none) = d.high := by
  obtain ⟨i1, i2, i3, i4⟩ := i
  cases e : d.high with
  | some l =>
    have := i4 l e
    rw [ap_high ok e (show l ≤ F + 1 + d.add by omega), ap_high ok e (show l ≤ F + d.add by omega), if_pos rfl]
  | none =>
    have k : ∀ v : Int, F ≤ v → d.ap v = v + d.add := fun v hv => by
      refine (ap_cases d ok v).2.2 ?_ (.inl e)
      cases f : d.low with
      | none => exact .inl rfl
      | some h => have := i3 h f; exact .inr ⟨h, rfl, by omega⟩
    rw [k _ (by omega), k _ (by omega), if_neg (by omega)]
theorem bound_of (d : Dd) : ∃ b, 0 ≤ b ∧ d.In b := by
  obtain ⟨a, l, h⟩ := d
  refine ⟨a.natAbs + (l.getD 0).natAbs + (h.getD 0).natAbs, by omega, in_mk (by omega) (by omega) (fun x hx => ?_) fun x hx => ?_⟩
  · cases hx; simp only [Option.getD_some]; omega
  · cases hx; simp only [Option.getD_some]; omega
theorem In.le {d : Dd} {a b : Int} (h : d.In a) (e : a ≤ b) : d.In b := ⟨by have := h.1; omega, by have := h.2.1; omega, fun l hl => by have := h.2.2.1 l hl; omega, fun l hl => by have := h.2.2.2 l hl; omega⟩
/-- there is just one deed that makes the same of all -/
theorem ap_ext {d e : Dd} (hd : d.Ok) (he : e.Ok) (h : ∀ v, d.ap v = e.ap v) : d = e := by
  obtain ⟨b, b0, hb⟩ := bound_of d
  obtain ⟨c, c0, hc⟩ := bound_of e
  have l1 := far_low (F := 3 * (b + c) + 2) hd (In.le hb (show b ≤ b + c by omega)) (by omega) (by omega)
  have l2 := far_low (F := 3 * (b + c) + 2) he (In.le hc (show c ≤ b + c by omega)) (by omega) (by omega)
  have h1 := far_high (F := 3 * (b + c) + 2) hd (In.le hb (show b ≤ b + c by omega)) (by omega) (by omega)
  have h2 := far_high (F := 3 * (b + c) + 2) he (In.le hc (show c ≤ b + c by omega)) (by omega) (by omega)
  rw [h, h, l2] at l1
  rw [h, h, h2] at h1
  have ea : d.add = e.add := by
    cases e1 : d.low with
    | none =>
      cases e2 : d.high with
      | none =>
        have := h 0
        rw [ap_nn d 0 e1 e2, ap_nn e 0 (l1.trans e1) (h1.trans e2)] at this
        omega
      | some k =>
        have := h (k - 1 - b - c)
        have q1 := hb.1; have q2 := hb.2.1; have q3 := hc.1; have q4 := hc.2.1
        rw [ap_ns d _ k e1 e2, ap_ns e _ k (l1.trans e1) (h1.trans e2), if_pos (by omega), if_pos (by omega)] at this
        omega
    | some l =>
      cases e2 : d.high with
      | none =>
        have := h (l + 1 + b + c)
        have q1 := hb.1; have q2 := hb.2.1; have q3 := hc.1; have q4 := hc.2.1
        rw [ap_sn d _ l e1 e2, ap_sn e _ l (l1.trans e1) (h1.trans e2), if_pos (by omega), if_pos (by omega)] at this
        omega
      | some k =>
        have o1 := hd l k e1 e2
        have o2 := he l k (l1.trans e1) (h1.trans e2)
        by_cases c1 : l = k
        · omega
        · have g1 := h (l - d.add)
          have g2 := h (l - d.add + 1)
          obtain ⟨C1, C2, C3⟩ := ap_cases e he (l - d.add)
          obtain ⟨D1, D2, D3⟩ := ap_cases e he (l - d.add + 1)
          rw [ap_low hd e1 (by omega)] at g1
          rw [(ap_cases d hd (l - d.add + 1)).2.2 (.inr ⟨l, e1, by omega⟩) (.inr ⟨k, e2, by omega⟩)] at g2
          have := C1 l (l1.trans e1); have := C2 k (h1.trans e2); have := D1 l (l1.trans e1); have := D2 k (h1.trans e2)
          by_cases c2 : l ≤ l - d.add + e.add
          · by_cases c3 : l - d.add + e.add ≤ k
            · have := C3 (.inr ⟨l, l1.trans e1, c2⟩) (.inr ⟨k, h1.trans e2, c3⟩); omega
            · omega
          · by_cases c3 : l ≤ l - d.add + 1 + e.add
            · have := D3 (.inr ⟨l, l1.trans e1, c3⟩) (.inr ⟨k, h1.trans e2, by omega⟩); omega
            · omega
  obtain ⟨a1, a2, a3⟩ := d
  obtain ⟨b1, b2, b3⟩ := e
  cases ea; cases l1; cases h1
  rfl
theorem beh_assoc {a b c : Dd} (ha : a.Ok) (hb : b.Ok) (hc : c.Ok) : beh (beh a b) c = beh a (beh b c) :=
  ap_ext (beh_ok (beh_ok ha hb) hc) (beh_ok ha (beh_ok hb hc)) fun v => by rw [beh_ap (beh_ok ha hb) hc, beh_ap ha hb, beh_ap ha (beh_ok hb hc), beh_ap hb hc]
theorem look_ap (v : Int) : look.ap v = v := by show v + 0 = v; omega
theorem beh_look {a : Dd} (ha : a.Ok) : beh a look = a := ap_ext (beh_ok ha look_ok) ha fun v => by rw [beh_ap ha look_ok, look_ap]
theorem look_beh {a : Dd} (ha : a.Ok) : beh look a = a := ap_ext (beh_ok look_ok ha) ha fun v => by rw [beh_ap look_ok ha, look_ap]
/-! ### a deed as data -/
def po : Option Int → PyData
  | none => .none
  | some i => .int i
def pd (d : Dd) : PyData := .tuple [.int d.add, po d.low, po d.high]
theorem po_dp {K : PySem.W.Frag} {H : Hp} (o : Option Int) : Dp K H (oV o) (po o) := by
  cases o with
  | none => exact .non
  | some i => exact .int i
theorem pd_dp {K : PySem.W.Frag} {H : Hp} {a : Addr} {d : Dd} (h : SqT K H a d.vs) : Dp K H (.ref a) (pd d) := .tup h (.cons (.int _) (.cons (po_dp _) (.cons (po_dp _) .nil)))
theorem pd_sh (d : Dd) : SeqAt.shaped (pd d) = true := by
  obtain ⟨a, l, h⟩ := d
  cases l <;> cases h <;> rfl
theorem pd_refl (d : Dd) : PyData.eqv (pd d) (pd d) = true := SeqAt.eqv_refl _ (SeqAt.canLay_of_shaped (pd_sh d))
/-- a new tuple with a deed -/
def NewD (H : Hp) (Q : VK) (d : Dd) : Prop := ∀ (a : Addr) (H' : Hp), Same H H' → H a = none → H' a = some (.tup d.vs) → Q (.ref a) H'
abbrev Fx : Int := 10 ^ Int.toNat 64 * 10 ^ Int.toNat 26
theorem Fx_eq : Fx = 10 ^ 90 := by decide
theorem take_snoc {α : Type} {l : List α} {i : Nat} {x : α} (h : l[i]? = some x) : l.take (i + 1) = l.take i ++ [x] := by rw [List.take_succ, h] <;> rfl
/-- a deed's tuple that was made here -/
def Da (H : Hp) (a : Addr) (d : Dd) : Prop := H a = some (.tup d.vs) ∧ d.In (10 ^ 80) ∧ d.Ok
theorem Da.arg {K : PySem.W.Frag} {H : Hp} {a : Addr} {d : Dd} (h : Da H a d) : DeedArg K H a d := ⟨.base (.tup h.1), SqT.of h.1, h.2.2⟩
theorem Da.same {H H' : Hp} {a : Addr} {d : Dd} (e : Same H H') (h : Da H a d) : Da H' a d := ⟨e _ _ h.1, h.2⟩
theorem Da.sq {K : PySem.W.Frag} {H : Hp} {a : Addr} {d : Dd} (h : Da H a d) : SqT K H a d.vs := SqT.of h.1
theorem Da.dp {K : PySem.W.Frag} {H : Hp} {a : Addr} {d : Dd} (h : Da H a d) : Dp K H (.ref a) (pd d) := pd_dp h.sq
theorem ne_pd {d : Dd} : (!PyData.eqv (pd d) (pd d)) = false := by rw [pd_refl] <;> rfl
theorem addT {x : Int} {k : Bool} {p : Prop} [Decidable p] (h : k = true ↔ ¬ p) : x * (if k = true then 1 else 0) = if p then 0 else x := by
  by_cases c : p
  · rw [if_pos c, if_neg (fun z => h.mp z c)]; exact Int.mul_zero _
  · rw [if_neg c, if_pos (h.mpr c)]; exact Int.mul_one _
/-! ### shown data: one look -/
structure Sh (d : PyData) (n c : Nat) : Prop where
  s : d.showable = true
  dep : d.depth ≤ n
  c : cst d ≤ c
theorem shAll {α : Type} {f : α → PyData} {n c : Nat} : ∀ {xs : List α}, (∀ x ∈ xs, Sh (f x) n c) → PyData.showableAll (xs.map f) = true ∧ PyData.depthAll (xs.map f) ≤ n ∧ csts (xs.map f) ≤ (c + 4) * xs.length
  | [], _ => ⟨rfl, Nat.zero_le _, Nat.zero_le _⟩
  | x :: r, h => by
    obtain ⟨h1, h2, h3⟩ := shAll (xs := r) fun y hy => h y (List.mem_cons_of_mem _ hy)
    obtain ⟨g1, g2, g3⟩ := h x List.mem_cons_self
    refine ⟨?_, ?_, ?_⟩
    · simp only [List.map_cons, PyData.showableAll, g1, h1, Bool.and_self]
    · simp only [List.map_cons, PyData.depthAll]; omega
    · simp only [List.map_cons, csts, List.length_cons, Nat.mul_add, Nat.mul_one]; omega
theorem Sh.tup {α : Type} {f : α → PyData} {n c m k j : Nat} {xs : List α} (h : ∀ x ∈ xs, Sh (f x) n c) (hm : n + 1 ≤ m) (hl : xs.length ≤ j) (hk : (c + 4) * j + 4 ≤ k) : Sh (.tuple (xs.map f)) m k := by
  obtain ⟨h1, h2, h3⟩ := shAll h
  have h4 := Nat.mul_le_mul_left (c + 4) hl
  refine ⟨h1, ?_, ?_⟩
  · simp only [PyData.depth]; omega
  · show csts _ + 4 ≤ k; omega
theorem Sh.lst {α : Type} {f : α → PyData} {n c m k j : Nat} {xs : List α} (h : ∀ x ∈ xs, Sh (f x) n c) (hm : n + 1 ≤ m) (hl : xs.length ≤ j) (hk : (c + 4) * j + 4 ≤ k) : Sh (.list (xs.map f)) m k := by
  obtain ⟨h1, h2, h3⟩ := shAll h
  have h4 := Nat.mul_le_mul_left (c + 4) hl
  refine ⟨h1, ?_, ?_⟩
  · simp only [PyData.depth]; omega
  · show csts _ + 4 ≤ k; omega
theorem int_sh {i : Int} (h1 : -(10 ^ 100) ≤ i) (h2 : i ≤ 10 ^ 100) : Sh (.int i) 0 1921 := by
  refine ⟨?_, Nat.le_refl _, Nat.le_refl _⟩
  have : i.natAbs.log2 < 1920 := log_lt (by decide) (Nat.lt_of_le_of_lt (m := 10 ^ 100) (by omega) (by decide))
  simpa [PyData.showable] using this
theorem Sh.mono {d : PyData} {n c n' c' : Nat} (h : Sh d n c) (h1 : n ≤ n') (h2 : c ≤ c') : Sh d n' c' := ⟨h.s, Nat.le_trans h.dep h1, Nat.le_trans h.c h2⟩
theorem rep_ {K : PySem.W.Frag} {σ : L2.St} {H : Hp} {x : V} {d : PyData} {n c : Nat} {Q : VK} (hd : Dp K H x d) (s : Sh d n c) (hn : n ≤ 60 := by decide) (hc : c ≤ 10000000 := by decide) (q : Q (.str d.shown) H) :
    tNil σ H (fun xs H2 => (fun vs H1 => rRepr K vs H1 Q) (x :: xs) H2) :=
  ⟨x, d, rfl, hd, s.s, Nat.le_trans s.dep hn, shown_sz s.s (dp_noDict d x hd) (Nat.le_trans s.c hc), q⟩
theorem dps {α : Type} {K : PySem.W.Frag} {H : Hp} {g : α → V} {f : α → PyData} : ∀ {xs : List α}, (∀ x ∈ xs, Dp K H (g x) (f x)) → DpAll K H (xs.map g) (xs.map f)
  | [], _ => .nil
  | x :: r, h => .cons (h x List.mem_cons_self) (dps fun y hy => h y (List.mem_cons_of_mem _ hy))
theorem po_sh {b : Int} {o : Option Int} (h : ∀ l, o = some l → -b ≤ l ∧ l ≤ b) (hb : b ≤ 10 ^ 100) : Sh (po o) 0 1921 := by
  cases o with
  | none => exact ⟨rfl, Nat.le_refl _, by show 5 ≤ 1921; decide⟩
  | some i => have := h i rfl; exact int_sh (by omega) (by omega)
theorem pd_sh1 {b : Int} {d : Dd} (h : d.In b) (hb : b ≤ 10 ^ 100) : Sh (pd d) 1 6000 := by
  have := h.1; have := h.2.1
  refine Sh.tup (f := id) (n := 0) (c := 1921) (j := 3) (xs := [.int d.add, po d.low, po d.high]) ?_ (Nat.le_refl _) (Nat.le_refl _) (by decide)
  intro x hx
  simp only [List.mem_cons, List.mem_nil_iff, or_false] at hx
  rcases hx with rfl | rfl | rfl
  · exact int_sh (by omega) (by omega)
  · exact po_sh h.2.2.1 hb
  · exact po_sh h.2.2.2 hb
/-! ### boards and asks -/
def BoardAt (H : Hp) (b : Addr) (bs : List Int) : Prop := H b = some (.tup (bs.map V.int)) ∧ 1 ≤ bs.length ∧ bs.length ≤ 16
def Wi (c : Int) (bs : List Int) : Prop := ∀ x ∈ bs, -c ≤ x ∧ x ≤ c
theorem BoardAt.same {H H' : Hp} {b : Addr} {bs : List Int} (e : Same H H') (h : BoardAt H b bs) : BoardAt H' b bs := ⟨e _ _ h.1, h.2⟩
structure Ak where
  a : Addr
  hand : Int
  box : Nat
  da : Addr
  d : Dd
def Ak.vs (x : Ak) : List V := [.int x.hand, .int x.box, .ref x.da]
def Ak.at_ (H : Hp) (nb : Nat) (x : Ak) : Prop := H x.a = some (.tup x.vs) ∧ Da H x.da x.d ∧ 0 ≤ x.hand ∧ x.hand < 16 ∧ x.box < nb
def AsksAt (H : Hp) (k : Addr) (as : List Ak) (nb : Nat) : Prop := H k = some (.tup (as.map fun x => .ref x.a)) ∧ as.length ≤ 40 ∧ ∀ x ∈ as, x.at_ H nb
theorem Ak.at_.same {H H' : Hp} {nb : Nat} {x : Ak} (e : Same H H') (h : x.at_ H nb) : x.at_ H' nb := ⟨e _ _ h.1, h.2.1.same e, h.2.2⟩
theorem AsksAt.same {H H' : Hp} {k : Addr} {as : List Ak} {nb : Nat} (e : Same H H') (h : AsksAt H k as nb) : AsksAt H' k as nb := ⟨e _ _ h.1, h.2.1, fun x hx => (h.2.2 x hx).same e⟩
theorem Da.but {p : Addr} {ys : List V} {H H' : Hp} {a : Addr} {d : Dd} (e : But p H H') (hp : H p = some (.lst ys)) (h : Da H a d) : Da H' a d := ⟨e _ _ (ne_of h.1 hp (by intro z; cases z)) h.1, h.2⟩
theorem Ak.at_.but {p : Addr} {ys : List V} {H H' : Hp} {nb : Nat} {x : Ak} (e : But p H H') (hp : H p = some (.lst ys)) (h : x.at_ H nb) : x.at_ H' nb := ⟨e _ _ (ne_of h.1 hp (by intro z; cases z)) h.1, h.2.1.but e hp, h.2.2⟩
def Ak.pd (x : Ak) : PyData := .tuple [.int x.hand, .int x.box, Toy.pd x.d]
theorem Ak.at_.dp {K : PySem.W.Frag} {H : Hp} {nb : Nat} {x : Ak} (h : x.at_ H nb) : Dp K H (.ref x.a) x.pd := .tup (SqT.of h.1) (.cons (.int _) (.cons (.int _) (.cons h.2.1.dp .nil)))
theorem Ak.at_.sh {H : Hp} {nb : Nat} {x : Ak} (h : x.at_ H nb) (hn : nb ≤ 16) : Sh x.pd 2 19000 := by
  refine Sh.tup (f := id) (n := 1) (c := 6000) (j := 3) (xs := [.int x.hand, .int x.box, Toy.pd x.d]) ?_ (Nat.le_refl _) (Nat.le_refl _) (by decide)
  have := h.2.2
  intro y hy
  simp only [List.mem_cons, List.mem_nil_iff, or_false] at hy
  rcases hy with rfl | rfl | rfl
  · exact (int_sh (by omega) (by omega)).mono (by decide) (by decide)
  · exact (int_sh (by omega) (by omega)).mono (by decide) (by decide)
  · exact pd_sh1 h.2.1.2.1 (by decide)
def intsD (bs : List Int) : PyData := .tuple (bs.map PyData.int)
theorem ints_sh1 {bs : List Int} {c : Int} {n : Nat} (h : Wi c bs) (hc : c ≤ 10 ^ 100) (hn : bs.length ≤ n) : Sh (intsD bs) 1 (1925 * n + 4) :=
  Sh.tup (n := 0) (c := 1921) (j := n) (fun x hx => have := h x hx; int_sh (by omega) (by omega)) (Nat.le_refl _) hn (by omega)
theorem BoardAt.dp {K : PySem.W.Frag} {H : Hp} {b : Addr} {bs : List Int} (h : BoardAt H b bs) : Dp K H (.ref b) (intsD bs) := tupI_dp (SqT.of h.1)
def akD (as : List Ak) : PyData := .tuple (as.map Ak.pd)
theorem AsksAt.dp {K : PySem.W.Frag} {H : Hp} {k : Addr} {as : List Ak} {nb : Nat} (h : AsksAt H k as nb) : Dp K H (.ref k) (akD as) := .tup (SqT.of h.1) (dps fun x hx => (h.2.2 x hx).dp)
theorem AsksAt.sh {H : Hp} {k : Addr} {as : List Ak} {nb : Nat} (h : AsksAt H k as nb) (hn : nb ≤ 16) : Sh (akD as) 3 800000 :=
  Sh.tup (n := 2) (c := 19000) (j := 40) (fun x hx => (h.2.2 x hx).sh hn) (Nat.le_refl _) h.2.1 (by decide)
/-! ### asks played -/
def stepP (s : List Int × List Int) (x : Ak) : List Int × List Int := (s.1 ++ [s.2.getD x.box 0], s.2.set x.box (x.d.ap (s.2.getD x.box 0)))
def play (as : List Ak) (bs : List Int) : List Int × List Int := as.foldl stepP ([], bs)
theorem play_snoc {as : List Ak} {bs : List Int} {i : Nat} {x : Ak} (h : as[i]? = some x) : play (as.take (i + 1)) bs = stepP (play (as.take i) bs) x := by
  unfold play; rw [take_snoc h, List.foldl_append] <;> rfl
theorem Wi.set {c : Int} {bs : List Int} {i : Nat} {v : Int} (h : Wi c bs) (h1 : -c ≤ v) (h2 : v ≤ c) : Wi c (bs.set i v) := fun x hx => by
  rcases List.mem_or_eq_of_mem_set hx with h3 | h3
  · exact h x h3
  · subst h3; exact ⟨h1, h2⟩
theorem Wi.mono {c c' : Int} {bs : List Int} (h : Wi c bs) (e : c ≤ c') : Wi c' bs := fun x hx => by have := h x hx; omega
theorem Wi.get {c : Int} {bs : List Int} {i : Nat} (h : Wi c bs) (h0 : 0 ≤ c) : -c ≤ bs.getD i 0 ∧ bs.getD i 0 ≤ c := by
  rw [List.getD_eq_getElem?_getD]
  cases e : bs[i]? with
  | none => show -c ≤ 0 ∧ 0 ≤ c; omega
  | some x => exact h x (List.mem_of_getElem? e)
theorem snoc_ind {α : Type} {p : List α → Prop} (nil : p []) (snoc : ∀ l x, p l → p (l ++ [x])) (l : List α) : p l := by
  have h : ∀ l : List α, p l.reverse := fun l => by
    induction l with
    | nil => exact nil
    | cons x r ih => rw [List.reverse_cons]; exact snoc _ _ ih
  have := h l.reverse
  rwa [List.reverse_reverse] at this
theorem play_in {H : Hp} {nb : Nat} {bs : List Int} {c : Int} (hc : 0 ≤ c) (hb : Wi c bs) : ∀ {as : List Ak}, (∀ x ∈ as, x.at_ H nb) → (play as bs).1.length = as.length ∧ (play as bs).2.length = bs.length ∧ Wi (c + as.length * 10 ^ 80) (play as bs).1 ∧ Wi (c + as.length * 10 ^ 80) (play as bs).2 := by
  intro as
  induction as using snoc_ind with
  | nil => exact fun _ => ⟨rfl, rfl, (fun x hx => (nomatch hx)), hb.mono (by show c ≤ c + ((0 : Nat) : Int) * _; omega)⟩
  | snoc as x ih =>
    intro h
    obtain ⟨i1, i2, i3, i4⟩ := ih fun y hy => h y (List.mem_append_left _ hy)
    have hx := h x (List.mem_append_right _ List.mem_cons_self)
    have e : play (as ++ [x]) bs = stepP (play as bs) x := by unfold play; rw [List.foldl_append] <;> rfl
    have hg := i4.get (i := x.box) (by omega)
    have ha := ap_in (v := (play as bs).2.getD x.box 0) hx.2.1.2.1 hg.1 hg.2 (by omega)
    rw [e]
    have el : (((as ++ [x]).length : Nat) : Int) = as.length + 1 := by simp
    rw [el]
    refine ⟨?_, ?_, ?_, ?_⟩
    · show (_ ++ [_]).length = _; simp [i1]
    · show (List.set _ _ _).length = _; simp [i2]
    · intro y hy
      rcases List.mem_append.mp (show y ∈ _ ++ [_] from hy) with h3 | h3
      · have := i3 y h3; omega
      · have := List.mem_singleton.mp h3; subst this; omega
    · exact Wi.set (i4.mono (by omega)) (by omega) (by omega)
theorem menu8 : ∀ j : Nat, j < 8 → ∃ z : Int, ([.int 2147483629, .int 2147483587, .int 2147483579, .int 2147483563, .int 2147483549, .int 2147483543, .int 2147483497, .int 2147483489] : List V)[j]? = some (.int z) ∧ 0 < z ∧ z ≤ 2147483629
  | 0, _ => ⟨_, rfl, by decide, by decide⟩
  | 1, _ => ⟨_, rfl, by decide, by decide⟩
  | 2, _ => ⟨_, rfl, by decide, by decide⟩
  | 3, _ => ⟨_, rfl, by decide, by decide⟩
  | 4, _ => ⟨_, rfl, by decide, by decide⟩
  | 5, _ => ⟨_, rfl, by decide, by decide⟩
  | 6, _ => ⟨_, rfl, by decide, by decide⟩
  | 7, _ => ⟨_, rfl, by decide, by decide⟩
  | n + 8, h => absurd h (by omega)
theorem at3 {x0 x1 x2 : Int} : ∀ j : Nat, j < 3 → ∃ z : Int, ([.int x0, .int x1, .int x2] : List V)[j]? = some (.int z) ∧ (z = x0 ∨ z = x1 ∨ z = x2)
  | 0, _ => ⟨_, rfl, .inl rfl⟩
  | 1, _ => ⟨_, rfl, .inr (.inl rfl)⟩
  | 2, _ => ⟨_, rfl, .inr (.inr rfl)⟩
  | n + 3, h => absurd h (by omega)
theorem but_upd {p D : Addr} {H H1 : Hp} {o : HO} (n : H D = none) (a : But p H H1) : But p H (upd H1 D o) := fun b u hb e => by rw [upd_ne (ne_of_none e n)]; exact a b u hb e
theorem PotAt.upd {H : Hp} {p D : Addr} {o : HO} (n : p ≠ D) (h : PotAt H p) : PotAt (L2.upd H D o) p := by
  obtain ⟨a, b, h1, h2⟩ := h
  exact ⟨a, b, by rw [upd_ne n]; exact h1, h2⟩
theorem Wi.snoc {c : Int} {bs : List Int} {x : Int} (h : Wi c bs) (h1 : -c ≤ x) (h2 : x ≤ c) : Wi c (bs ++ [x]) := fun y hy => by
  rcases List.mem_append.mp hy with h3 | h3
  · exact h y h3
  · have := List.mem_singleton.mp h3; subst this; exact ⟨h1, h2⟩
theorem play_len {as : List Ak} {bs : List Int} : (play as bs).1.length = as.length ∧ (play as bs).2.length = bs.length := by
  induction as using snoc_ind with
  | nil => exact ⟨rfl, rfl⟩
  | snoc as x ih =>
    have e : play (as ++ [x]) bs = stepP (play as bs) x := by unfold play; rw [List.foldl_append] <;> rfl
    rw [e]
    refine ⟨?_, ?_⟩
    · show (_ ++ [_]).length = _; simp [ih.1]
    · show (List.set _ _ _).length = _; simp [ih.2]
theorem map_getD {us : List Int} {i : Nat} (h : i < us.length) : (us.map V.int)[i]? = some (.int (us.getD i 0)) := by
  rw [List.getElem?_map, List.getD_eq_getElem?_getD, List.getElem?_eq_getElem h] <;> rfl
/-- what is told of asks played -/
def TwoAt (H : Hp) (r : Addr) (s : List Int × List Int) : Prop := ∃ t1 t2, H r = some (.tup [.ref t1, .ref t2]) ∧ H t1 = some (.tup (s.1.map V.int)) ∧ H t2 = some (.tup (s.2.map V.int))
theorem TwoAt.same {H H' : Hp} {r : Addr} {s : List Int × List Int} (e : Same H H') (h : TwoAt H r s) : TwoAt H' r s := by
  obtain ⟨a, b, h1, h2, h3⟩ := h
  exact ⟨a, b, e _ _ h1, e _ _ h2, e _ _ h3⟩
def twoD (s : List Int × List Int) : PyData := .tuple [intsD s.1, intsD s.2]
theorem TwoAt.dp {K : PySem.W.Frag} {H : Hp} {r : Addr} {s : List Int × List Int} (h : TwoAt H r s) : Dp K H (.ref r) (twoD s) := by
  obtain ⟨a, b, h1, h2, h3⟩ := h
  exact .tup (SqT.of h1) (.cons (tupI_dp (SqT.of h2)) (.cons (tupI_dp (SqT.of h3)) .nil))
theorem play_sh {H : Hp} {k : Addr} {as : List Ak} {bs : List Int} {c : Int} (hk : AsksAt H k as bs.length) (hn : bs.length ≤ 16) (hw : Wi c bs) (h0 : 0 ≤ c) (hc : c ≤ 10 ^ 91) : Sh (twoD (play as bs)) 2 160000 := by
  obtain ⟨h1, h2, h3, h4⟩ := play_in h0 hw hk.2.2
  have h40 := hk.2.1
  have hb : c + (as.length : Int) * 10 ^ 80 ≤ 10 ^ 100 := by omega
  refine Sh.tup (f := id) (n := 1) (c := 77004) (j := 2) (xs := [intsD (play as bs).1, intsD (play as bs).2]) ?_ (Nat.le_refl _) (Nat.le_refl _) (by decide)
  intro x hx
  simp only [List.mem_cons, List.mem_nil_iff, or_false] at hx
  rcases hx with rfl | rfl
  · exact ints_sh1 (n := 40) h3 hb (by omega)
  · exact ints_sh1 (n := 40) h4 hb (by omega)
/-! ### trees -/
inductive Tr where
  | leaf (n : Nat)
  | node (l r : Tr)
def Tr.cnt : Tr → Nat
  | .leaf _ => 1
  | .node l r => l.cnt + r.cnt
def Tr.h : Tr → Nat
  | .leaf _ => 1
  | .node l r => max l.h r.h + 1
def Tr.d : Tr → PyData
  | .leaf n => .int n
  | .node l r => .tuple [l.d, r.d]
def Tr.big : Tr → Nat
  | .leaf n => n
  | .node l r => max l.big r.big
def TrAt (H : Hp) : V → Tr → Prop
  | v, .leaf n => v = .int n
  | v, .node l r => ∃ a x y, v = .ref a ∧ H a = some (.tup [x, y]) ∧ TrAt H x l ∧ TrAt H y r
theorem TrAt.same {H H' : Hp} (e : Same H H') : ∀ {t : Tr} {v : V}, TrAt H v t → TrAt H' v t
  | .leaf _, _, h => h
  | .node l r, _, ⟨a, x, y, h1, h2, h3, h4⟩ => ⟨a, x, y, h1, e _ _ h2, TrAt.same e h3, TrAt.same e h4⟩
theorem TrAt.dp {K : PySem.W.Frag} {H : Hp} : ∀ {t : Tr} {v : V}, TrAt H v t → Dp K H v t.d
  | .leaf n, _, h => by
    cases (show _ = V.int n from h)
    exact .int n
  | .node l r, _, ⟨a, x, y, h1, h2, h3, h4⟩ => by
    cases h1
    exact .tup (SqT.of h2) (.cons h3.dp (.cons h4.dp .nil))
theorem Tr.sh : ∀ {t : Tr} {b : Nat}, t.big ≤ b → b ≤ 10 ^ 9 → t.d.showable = true ∧ t.d.depth + 1 ≤ t.h ∧ cst t.d + 12 ≤ 1940 * t.cnt
  | .leaf n, b, h, hb => by
    have h' : n ≤ b := h
    have i := int_sh (i := n) (by omega) (by omega)
    exact ⟨i.s, Nat.le_refl _, by show 1921 + 12 ≤ 1940 * 1; decide⟩
  | .node l r, b, h, hb => by
    have h' : max l.big r.big ≤ b := h
    obtain ⟨a1, a2, a3⟩ := Tr.sh (t := l) (b := b) (by omega) hb
    obtain ⟨b1, b2, b3⟩ := Tr.sh (t := r) (b := b) (by omega) hb
    refine ⟨?_, ?_, ?_⟩
    · simp only [Tr.d, PyData.showable, PyData.showableAll, a1, b1, Bool.and_self]
    · simp only [Tr.d, PyData.depth, PyData.depthAll, Tr.h]; omega
    · show (cst l.d + 4 + (cst r.d + 4 + 0)) + 4 + 12 ≤ 1940 * (l.cnt + r.cnt); omega
theorem Tr.shw {t : Tr} (h1 : t.big ≤ 10 ^ 9) (h2 : t.h ≤ 50) (h3 : t.cnt ≤ 50) : Sh t.d 60 100000 := by
  obtain ⟨a, b, c⟩ := Tr.sh h1 (Nat.le_refl _)
  exact ⟨a, by omega, by omega⟩
theorem Tr.h_pos : ∀ t : Tr, 1 ≤ t.h
  | .leaf _ => Nat.le_refl _
  | .node _ _ => Nat.le_add_left _ _
/-- the halved tree -/
def hv (f m : Nat) : Tr := if m ≤ 1 then .leaf f else .node (hv f ((m + 1) / 2)) (hv (f + (m + 1) / 2) (m - (m + 1) / 2))
termination_by m
decreasing_by all_goals omega
theorem hv_one {f m : Nat} (h : m ≤ 1) : hv f m = .leaf f := by rw [hv, if_pos h]
theorem hv_more {f m : Nat} (h : ¬ m ≤ 1) : hv f m = .node (hv f ((m + 1) / 2)) (hv (f + (m + 1) / 2) (m - (m + 1) / 2)) := by rw [hv, if_neg h]
def IsH : Tr → Nat → Prop
  | .leaf n, f => n = f
  | .node l r, f => (l.cnt = r.cnt ∨ l.cnt = r.cnt + 1) ∧ IsH l f ∧ IsH r (f + l.cnt)
theorem hv_is : ∀ (m f : Nat), 1 ≤ m → IsH (hv f m) f ∧ (hv f m).cnt = m ∧ (hv f m).h ≤ m ∧ (hv f m).big ≤ f + m := by
  intro m
  induction m using Nat.strongRecOn with
  | _ m ih =>
    intro f h
    by_cases c : m ≤ 1
    · rw [hv_one c]
      have : m = 1 := by omega
      subst this
      exact ⟨rfl, rfl, Nat.le_refl _, Nat.le_add_right _ _⟩
    · rw [hv_more c]
      obtain ⟨a1, a2, a3, a4⟩ := ih ((m + 1) / 2) (by omega) f (by omega)
      obtain ⟨b1, b2, b3, b4⟩ := ih (m - (m + 1) / 2) (by omega) (f + (m + 1) / 2) (by omega)
      refine ⟨⟨by omega, a1, by rw [a2]; exact b1⟩, ?_, ?_, ?_⟩
      · show _ + _ = _; omega
      · show max _ _ + 1 ≤ _; omega
      · show max _ _ ≤ _; omega
/-- the chained tree of so many -/
def ch : Nat → Tr
  | 0 => .leaf 0
  | n + 1 => .node (ch n) (.leaf (n + 1))
theorem ch_is : ∀ n, (ch n).cnt = n + 1 ∧ (ch n).h ≤ n + 1 ∧ (ch n).big ≤ n
  | 0 => ⟨rfl, Nat.le_refl _, Nat.le_refl _⟩
  | n + 1 => by
    obtain ⟨a, b, c⟩ := ch_is n
    refine ⟨?_, ?_, ?_⟩
    · show _ + 1 = _; omega
    · show max _ 1 + 1 ≤ _; omega
    · show max _ (n + 1) ≤ _; omega
theorem TrAt.but {p : Addr} {ys : List V} {H H' : Hp} (e : But p H H') (hp : H p = some (.lst ys)) : ∀ {t : Tr} {v : V}, TrAt H v t → TrAt H' v t
  | .leaf _, _, h => h
  | .node l r, _, ⟨a, x, y, h1, h2, h3, h4⟩ => ⟨a, x, y, h1, e _ _ (ne_of h2 hp (by intro z; cases z)) h2, TrAt.but e hp h3, TrAt.but e hp h4⟩
end Toy
/-! ### tuples: t + u and t[a:b] of any kind -/
namespace Toy
open PySem PySem.Spec PyProof.Rows L2
def rCatU : R2 := fun x y H Q => ∃ a b xs ys, x = .ref a ∧ y = .ref b ∧ H a = some (.tup xs) ∧ H b = some (.tup ys) ∧ xs.length + ys.length ≤ sizeLine ∧ ∀ p H', Same H H' → H' p = some (.tup (xs ++ ys)) → Q (.ref p) H'
theorem op_catU {X : Cx} : OpR X (binaryOp .Add) rCatU := by
  intro pins s σ H x y v u Q I rx ry h
  obtain ⟨a, b, xs, ys, rfl, rfl, ha, hb, hz, q⟩ := h
  refine op_catA pins s σ H _ _ v u Q I rx ry ⟨a, b, xs, ys, rfl, rfl, SqT.of ha, SqT.of hb, hz, fun e => ?_, fun _ e => ?_, fun _ _ p hp => q p _ (same_new hp _) upd_same⟩
  · subst e
    exact q b H (fun _ _ z => z) (by rw [hb, List.nil_append])
  · subst e
    exact q a H (fun _ _ z => z) (by rw [ha, List.append_nil])
def rSlU : V → Option Int → Option Int → Hp → VK → Prop := fun x lo hi H Q => ∃ a xs, x = .ref a ∧ H a = some (.tup xs) ∧ ∀ p H', Same H H' → H' p = some (.tup (cutV xs lo hi)) → Q (.ref p) H'
theorem sl_tupU {X : Cx} : SlR X rSlU := by
  intro pins s σ H x v vl vu lo hi sl Q I rx hs pl pu h
  obtain ⟨a, xs, rfl, ha, q⟩ := h
  refine sl_tupA pins s σ H _ v vl vu lo hi sl Q I rx hs pl pu ⟨a, xs, rfl, SqT.of ha, fun e => ?_, fun _ p hp => q p _ (same_new hp _) upd_same⟩
  refine q a H (fun _ _ z => z) ?_
  rw [ha]
  have : cutV xs lo hi = xs := by
    unfold cutV
    rw [e.1, e.2, List.drop_zero, Nat.sub_zero, List.take_length]
  rw [this]
/-! ### things of any kind: numbers, truths, None, texts, tuples, lists, dicts with ints as keys -/
mutual
def wt : PyData → Nat
  | .none => 5
  | .bool _ => 5
  | .int _ => 1921
  | .str x => (reprText x).length + 1
  | .list xs => wts xs + 4
  | .tuple xs => wts xs + 4
  | .dict kvs => wtk kvs + 4
def wts : List PyData → Nat
  | [] => 0
  | x :: xs => wt x + 4 + wts xs
def wtk : List (PyData × PyData) → Nat
  | [] => 0
  | (k, v) :: r => wt k + wt v + 8 + wtk r
end
theorem dicT_len (ts : List Str) : (dictText ts).length ≤ piled ts + 4 := by
  unfold dictText
  rw [strLen_append, strLen_append]
  have e1 : ((("{" : String) : Str)).length = 1 := rfl
  have e3 : ((("}" : String) : Str)).length = 1 := rfl
  by_cases h : ts = []
  · subst h; decide +kernel
  · have := join_length_add ts h; omega
mutual
theorem shown_wt : ∀ d : PyData, d.showable = true → d.shown.length ≤ wt d
  | .none, _ => by show (("None" : String) : Str).length ≤ 5; decide +kernel
  | .bool b, _ => by cases b <;> (show _ ≤ 5; decide +kernel)
  | .int i, h => PyProof.Rows.int_text_len_1921 (of_decide_eq_true (by simpa [PyData.showable] using h))
  | .str x, _ => Nat.le_succ _
  | .list ds, h => by
    have h1 := showns_wt ds (by simpa [PyData.showable] using h)
    have h2 := lstT_len (PyData.shownAll ds)
    show (listText (PyData.shownAll ds)).length ≤ wts ds + 4
    omega
  | .tuple ds, h => by
    have h1 := showns_wt ds (by simpa [PyData.showable] using h)
    have h2 := tupT_len (PyData.shownAll ds)
    show (tupleText (PyData.shownAll ds)).length ≤ wts ds + 4
    omega
  | .dict kvs, h => by
    have h1 := shownk_wt kvs (by simpa [PyData.showable] using h)
    have h2 := dicT_len (PyData.shownKv kvs)
    show (dictText (PyData.shownKv kvs)).length ≤ wtk kvs + 4
    omega
theorem showns_wt : ∀ ds : List PyData, PyData.showableAll ds = true → piled (PyData.shownAll ds) ≤ wts ds
  | [], _ => Nat.le_refl _
  | d :: ds, h => by
    have h1 := shown_wt d (by simp [PyData.showableAll] at h; exact h.1)
    have h2 := showns_wt ds (by simp [PyData.showableAll] at h; exact h.2)
    show piled (d.shown :: PyData.shownAll ds) ≤ _
    rw [piled_cons]
    show _ ≤ wt d + 4 + wts ds
    omega
theorem shownk_wt : ∀ kvs : List (PyData × PyData), PyData.showableKv kvs = true → piled (PyData.shownKv kvs) ≤ wtk kvs
  | [], _ => Nat.le_refl _
  | (k, v) :: r, h => by
    have h0 : (k.showable = true ∧ v.showable = true) ∧ PyData.showableKv r = true := by simpa [PyData.showableKv] using h
    have h1 := shown_wt k h0.1.1
    have h2 := shown_wt v h0.1.2
    have h3 := shownk_wt r h0.2
    show piled ((k.shown ++ ": " ++ v.shown) :: PyData.shownKv r) ≤ _
    rw [piled_cons, strLen_append, strLen_append]
    have e : (((": " : String) : Str)).length = 2 := rfl
    show _ ≤ wt k + wt v + 8 + wtk r
    omega
end
theorem shown_wz {d : PyData} (h : d.showable = true) (c : wt d ≤ 10000000) : d.shown.length ≤ sizeLine := Nat.le_trans (shown_wt d h) (Nat.le_trans c (by decide))
/-- a thing: d stands at v; the list p is no part of it -/
inductive Th (K : PySem.W.Frag) (p : Addr) (H : Hp) : V → PyData → Prop
  | non : Th K p H .non .none
  | bl (b : Bool) : Th K p H (.bl b) (.bool b)
  | int (i : Int) : Th K p H (.int i) (.int i)
  | str (x : Str) : Th K p H (.str x) (.str x)
  | tup {a : Addr} {tr : List (V × PyData)} : H a = some (.tup (tr.map fun t => t.1)) → (∀ t ∈ tr, Th K p H t.1 t.2) → Th K p H (.ref a) (.tuple (tr.map fun t => t.2))
  | lst {a : Addr} {tr : List (V × PyData)} : a ≠ p → a ≠ sysModules → H a = some (.lst (tr.map fun t => t.1)) → (∀ t ∈ tr, Th K p H t.1 t.2) → Th K p H (.ref a) (.list (tr.map fun t => t.2))
  | dct {a : Addr} {tr : List (Int × V × PyData)} : H a = some (.dK (tr.map fun t => (Sum.inl t.1, t.2.1))) → (∀ t ∈ tr, Th K p H t.2.1 t.2.2) → Th K p H (.ref a) (.dict (tr.map fun t => (.int t.1, t.2.2)))
theorem Th.same {K : PySem.W.Frag} {p : Addr} {H H' : Hp} {v : V} {d : PyData} (h : Th K p H v d) (e : Same H H') : Th K p H' v d := by
  induction h with
  | non => exact .non
  | bl b => exact .bl b
  | int i => exact .int i
  | str x => exact .str x
  | tup h1 _ ih => exact .tup (e _ _ h1) ih
  | lst n1 n2 h1 _ ih => exact .lst n1 n2 (e _ _ h1) ih
  | dct h1 _ ih => exact .dct (e _ _ h1) ih
theorem Th.but {K : PySem.W.Frag} {p : Addr} {H H' : Hp} {v : V} {d : PyData} {ys : List V} (h : Th K p H v d) (e : But p H H') (hp : H p = some (.lst ys)) : Th K p H' v d := by
  induction h with
  | non => exact .non
  | bl b => exact .bl b
  | int i => exact .int i
  | str x => exact .str x
  | tup h1 _ ih => exact .tup (e _ _ (ne_of h1 hp (by intro z; cases z)) h1) ih
  | lst n1 n2 h1 _ ih => exact .lst n1 n2 (e _ _ n1 h1) ih
  | dct h1 _ ih => exact .dct (e _ _ (ne_of h1 hp (by intro z; cases z)) h1) ih
/-- the kind of a thing -/
def tyD : PyData → String
  | .none => "NoneType"
  | .bool _ => "bool"
  | .int _ => "int"
  | .str _ => "str"
  | .list _ => "list"
  | .tuple _ => "tuple"
  | .dict _ => "dict"
def isTu : PyData → Bool
  | .tuple _ => true
  | _ => false
def isIn : PyData → Bool
  | .int _ => true
  | .bool _ => true
  | _ => false
def isBl : PyData → Bool
  | .bool _ => true
  | _ => false
def isSt : PyData → Bool
  | .str _ => true
  | _ => false
/-- a whole number -/
def isWh : PyData → Bool
  | .int _ => true
  | _ => false
theorem isWh_eq (d : PyData) : isWh d = (isIn d && !isBl d) := by cases d <;> rfl
theorem Th.ty {K : PySem.W.Frag} {p : Addr} {H : Hp} {v : V} {d : PyData} (h : Th K p H v d) : TyX K H v (.type (tyD d)) := by
  cases h with
  | non => exact .base .non
  | bl b => exact .base (.bl b)
  | int i => exact .base (.int i)
  | str x => exact .base (.str x)
  | tup h1 _ => exact .base (.tup h1)
  | lst _ _ h1 _ => exact .base (.lst h1)
  | dct h1 _ => exact .base (.dK h1)
theorem kit_tu {K : PySem.W.Frag} : ∀ d : PyData, PySem.W.kitOne K (.type (tyD d)) (.type "tuple") = some (isTu d)
  | .none => (kit_ty (by decide +kernel) : PySem.W.kitOne K (.type "NoneType") (.type "tuple") = some false)
  | .bool _ => (kit_ty (by decide +kernel) : PySem.W.kitOne K (.type "bool") (.type "tuple") = some false)
  | .int _ => (kit_ty (by decide +kernel) : PySem.W.kitOne K (.type "int") (.type "tuple") = some false)
  | .str _ => (kit_ty (by decide +kernel) : PySem.W.kitOne K (.type "str") (.type "tuple") = some false)
  | .list _ => (kit_ty (by decide +kernel) : PySem.W.kitOne K (.type "list") (.type "tuple") = some false)
  | .tuple _ => (kit_ty (by decide +kernel) : PySem.W.kitOne K (.type "tuple") (.type "tuple") = some true)
  | .dict _ => (kit_ty (by decide +kernel) : PySem.W.kitOne K (.type "dict") (.type "tuple") = some false)
theorem kit_in {K : PySem.W.Frag} : ∀ d : PyData, PySem.W.kitOne K (.type (tyD d)) (.type "int") = some (isIn d)
  | .none => (kit_ty (by decide +kernel) : PySem.W.kitOne K (.type "NoneType") (.type "int") = some false)
  | .bool _ => (kit_ty (by decide +kernel) : PySem.W.kitOne K (.type "bool") (.type "int") = some true)
  | .int _ => (kit_ty (by decide +kernel) : PySem.W.kitOne K (.type "int") (.type "int") = some true)
  | .str _ => (kit_ty (by decide +kernel) : PySem.W.kitOne K (.type "str") (.type "int") = some false)
  | .list _ => (kit_ty (by decide +kernel) : PySem.W.kitOne K (.type "list") (.type "int") = some false)
  | .tuple _ => (kit_ty (by decide +kernel) : PySem.W.kitOne K (.type "tuple") (.type "int") = some false)
  | .dict _ => (kit_ty (by decide +kernel) : PySem.W.kitOne K (.type "dict") (.type "int") = some false)
theorem kit_bl {K : PySem.W.Frag} : ∀ d : PyData, PySem.W.kitOne K (.type (tyD d)) (.type "bool") = some (isBl d)
  | .none => (kit_ty (by decide +kernel) : PySem.W.kitOne K (.type "NoneType") (.type "bool") = some false)
  | .bool _ => (kit_ty (by decide +kernel) : PySem.W.kitOne K (.type "bool") (.type "bool") = some true)
  | .int _ => (kit_ty (by decide +kernel) : PySem.W.kitOne K (.type "int") (.type "bool") = some false)
  | .str _ => (kit_ty (by decide +kernel) : PySem.W.kitOne K (.type "str") (.type "bool") = some false)
  | .list _ => (kit_ty (by decide +kernel) : PySem.W.kitOne K (.type "list") (.type "bool") = some false)
  | .tuple _ => (kit_ty (by decide +kernel) : PySem.W.kitOne K (.type "tuple") (.type "bool") = some false)
  | .dict _ => (kit_ty (by decide +kernel) : PySem.W.kitOne K (.type "dict") (.type "bool") = some false)
theorem kit_st {K : PySem.W.Frag} : ∀ d : PyData, PySem.W.kitOne K (.type (tyD d)) (.type "str") = some (isSt d)
  | .none => (kit_ty (by decide +kernel) : PySem.W.kitOne K (.type "NoneType") (.type "str") = some false)
  | .bool _ => (kit_ty (by decide +kernel) : PySem.W.kitOne K (.type "bool") (.type "str") = some false)
  | .int _ => (kit_ty (by decide +kernel) : PySem.W.kitOne K (.type "int") (.type "str") = some false)
  | .str _ => (kit_ty (by decide +kernel) : PySem.W.kitOne K (.type "str") (.type "str") = some true)
  | .list _ => (kit_ty (by decide +kernel) : PySem.W.kitOne K (.type "list") (.type "str") = some false)
  | .tuple _ => (kit_ty (by decide +kernel) : PySem.W.kitOne K (.type "tuple") (.type "str") = some false)
  | .dict _ => (kit_ty (by decide +kernel) : PySem.W.kitOne K (.type "dict") (.type "str") = some false)
theorem Th.tup_inv {K : PySem.W.Frag} {p : Addr} {H : Hp} {v : V} {ds : List PyData} (h : Th K p H v (.tuple ds)) : ∃ (a : Addr) (tr : List (V × PyData)), v = .ref a ∧ ds = (tr.map fun t => t.2) ∧ H a = some (.tup (tr.map fun t => t.1)) ∧ ∀ t ∈ tr, Th K p H t.1 t.2 := by
  cases h with
  | @tup a tr h1 h2 => exact ⟨a, tr, rfl, rfl, h1, h2⟩
theorem Th.int_inv {K : PySem.W.Frag} {p : Addr} {H : Hp} {v : V} {i : Int} (h : Th K p H v (.int i)) : v = .int i := by cases h; rfl
theorem isTu_inv {d : PyData} (h : isTu d = true) : ∃ ds, d = .tuple ds := by cases d <;> first | exact ⟨_, rfl⟩ | cases h
theorem isWh_inv {d : PyData} (h : isWh d = true) : ∃ i, d = .int i := by cases d <;> first | exact ⟨_, rfl⟩ | cases h
/-! a thing, shown -/
theorem reads_all {h : Heap} : ∀ {tr : List (V × PyData)} {us : List Value}, Vals (tr.map fun t => t.1) us → (∀ t ∈ tr, ∀ u, RelV t.1 u → ∃ as, Reads h u t.2 as ∧ sysModules ∉ as) → ∃ as, ReadsAll h us (tr.map fun t => t.2) as ∧ sysModules ∉ as
  | [], _, .nil, _ => ⟨_, .nil, List.not_mem_nil⟩
  | t :: tr, _, .cons r rs, ih => by
    obtain ⟨as, h1, h2⟩ := ih t List.mem_cons_self _ r
    obtain ⟨bs, h3, h4⟩ := reads_all rs fun x hx => ih x (List.mem_cons_of_mem _ hx)
    exact ⟨_, .cons h1 h3, fun z => (List.mem_append.mp z).elim h2 h4⟩
theorem reads_dct {P : Program} {w : World} {h : Heap} : ∀ {tr : List (Int × V × PyData)} {vs : List (Key × Value)} {es : List DictEntry}, KV (tr.map fun t => ((Sum.inl t.1 : Key), t.2.1)) vs → Pairs (mixKind P w) es vs → (∀ t ∈ tr, ∀ u, RelV t.2.1 u → ∃ as, Reads h u t.2.2 as ∧ sysModules ∉ as) →
    ∃ as bs, ReadsAll h (es.map fun e => e.key) (tr.map fun t => PyData.int t.1) as ∧ ReadsAll h (es.map fun e => e.val) (tr.map fun t => t.2.2) bs ∧ sysModules ∉ as ∧ sysModules ∉ bs
  | [], _, _, .nil, .nil, _ => ⟨_, _, .nil, .nil, List.not_mem_nil, List.not_mem_nil⟩
  | t :: tr, _, _, .cons k ks, .cons e1 e2 es, ih => by
    obtain ⟨as, h1, h2⟩ := ih t List.mem_cons_self _ k.2
    obtain ⟨cs, bs, h3, h4, h5, h6⟩ := reads_dct ks es fun x hx => ih x (List.mem_cons_of_mem _ hx)
    have e1' := e1
    rw [← k.1] at e1'
    have e3 : keyIs (Sum.inl t.1) _ = true := e1'
    rcases keyIs_shape e3 with ⟨i, tk, ei, ek⟩ | ⟨x, tk, ei, _⟩
    · cases ei
      rw [← e2] at h1
      exact ⟨[] ++ cs, as ++ bs, .cons (by show Reads h _ (.int t.1) []; dsimp only; rw [ek]; exact Reads.int t.1 tk) h3, .cons h1 h4, h5, fun z => (List.mem_append.mp z).elim h2 h6⟩
    · cases ei
theorem Th.reads {X : Cx} {pins : List (Addr × Obj)} {σ : L2.St} {p : Addr} {H : Hp} {s : Shared} (I : Inv X pins σ H s) {v : V} {d : PyData} (h : Th X.K p H v d) : ∀ u, RelV v u → ∃ as, Reads s.heap u d as ∧ sysModules ∉ as := by
  induction h with
  | non => intro u r; cases r; exact ⟨_, .none, List.not_mem_nil⟩
  | bl b => intro u r; cases r; exact ⟨_, .bool b, List.not_mem_nil⟩
  | int i => intro u r; obtain ⟨t, rfl⟩ := r; exact ⟨_, .int i t, List.not_mem_nil⟩
  | str x => intro u r; obtain ⟨t, rfl⟩ := r; exact ⟨_, .str x t, List.not_mem_nil⟩
  | @tup a tr h1 _ ih =>
    intro u r
    cases r
    obtain ⟨its, rv, ⟨o, ho, hc, n, hd⟩, _⟩ := I.tuple (SqT.of h1)
    obtain ⟨as, h2, h3⟩ := reads_all rv ih
    exact ⟨_, .tuple ho hc hd h2, h3⟩
  | @lst a tr n1 n2 h1 _ ih =>
    intro u r
    cases r
    obtain ⟨its, rv, ⟨o, n, ho, hc, _, hd⟩, _⟩ := I.list (SqL.of h1)
    obtain ⟨as, h2, h3⟩ := reads_all rv ih
    exact ⟨_, .list ho hc hd h2, fun z => (List.mem_cons.mp z).elim (fun q => n2 q.symm) h3⟩
  | @dct a tr h1 _ ih =>
    intro u r
    cases r
    obtain ⟨_, hs, vs, kv, o, es, ep, ho, hx, hd, _, pr, _⟩ := dk_of I.hok h1
    obtain ⟨as, bs, h2, h3, h4, h5⟩ := reads_dct kv pr ih
    refine ⟨a :: as ++ bs, .dict (kvs := tr.map fun t => (PyData.int t.1, t.2.2)) ho hx.1 hd (by rw [List.map_map]; exact h2) (by rw [List.map_map]; exact h3), fun z => ?_⟩
    rcases List.mem_append.mp z with z | z
    · rcases List.mem_cons.mp z with z | z
      · rw [← z] at hs; cases hs
      · exact h4 z
    · exact h5 z
def rReprO (K : PySem.W.Frag) : List V → Hp → VK → Prop := fun xs H Q => ∃ (x : V) (d : PyData) (p : Addr), xs = [x] ∧ Th K p H x d ∧ d.showable = true ∧ d.depth ≤ 60 ∧ d.shown.length ≤ sizeLine ∧ Q (.str d.shown) H
theorem reprO {X : Cx} {k : Nat} {K : PySem.W.Frag} (hr : RoomG k X.A) (eK : X.K = K := by rfl) : CallR X (.builtin "repr") (rReprO K) := by
  cases eK
  intro pins s σ H xs us Q I r h
  obtain ⟨x, d, p, rfl, hd, hs, hdep, hz, q⟩ := h
  obtain ⟨u, rfl, rx⟩ := vals1 r
  obtain ⟨as, rd, na⟩ := Th.reads I hd u rx
  have hu := hr.units
  cases hd with
  | non => cases rx; exact PySem.P.repr_of_none ⟨.str _, H, I.tok _, ⟨_, rfl⟩, q⟩
  | bl b => cases rx; exact PySem.P.repr_of_bool ⟨.str _, H, I.tok _, ⟨_, rfl⟩, q⟩
  | int i => obtain ⟨t, rfl⟩ := rx; exact PySem.P.repr_of_int (of_decide_eq_true (by simpa [PyData.showable] using hs)) ⟨.str _, H, I.tok _, ⟨_, rfl⟩, q⟩
  | str z => obtain ⟨t, rfl⟩ := rx; exact PySem.P.repr_of_str ⟨.str _, H, I.tok _, ⟨_, rfl⟩, q⟩ hz
  | tup _ _ =>
    cases rx
    exact repr_of_reads' rd hs (fun _ => na) hr.idle (by omega) (fun _ _ z => z) (fun h' u tk hk => ⟨.str _, H, I.kept hk, ⟨_, rfl⟩, q⟩) hz
  | lst _ _ _ _ =>
    cases rx
    exact repr_of_reads' rd hs (fun _ => na) hr.idle (by omega) (fun _ _ z => z) (fun h' u tk hk => ⟨.str _, H, I.kept hk, ⟨_, rfl⟩, q⟩) hz
  | dct _ _ =>
    cases rx
    exact repr_of_reads' rd hs (fun _ => na) hr.idle (by omega) (fun _ _ z => z) (fun h' u tk hk => ⟨.str _, H, I.kept hk, ⟨_, rfl⟩, q⟩) hz
/-! lists that may be parts of things -/
def tLstS (t : TA) : TE := fun σ H Q => t σ H fun xs H1 => xs.length ≤ sizeLine ∧ ∀ p, H1 p = none → p ≠ sysModules → Q (.ref p) (upd H1 p (.lst xs))
theorem pe_lstS {X : Cx} {es : List Expr} {t : TA} {pos : Pos} (h : PA X es t) : PE X (.List es pos) (tLstS t) := by
  refine ⟨fun pins s σ H Q I hq => ?_⟩
  refine wpAny_List_spliced (thn (h.run pos pins s σ H _ I hq) fun us s1 ⟨xs, H1, I1, r, z, q⟩ => ⟨by rw [← r.length]; exact z, ?_⟩)
  have hn : H1 s1.heap.objs.size = none := I1.hok.fresh (Nat.le_refl _)
  exact ⟨.ref s1.heap.objs.size, upd H1 s1.heap.objs.size (.lst xs), I1.laid (t' := s1.toks) (fun b u e => Heap.get?_push_of_some _ e) (Nat.le_refl _) ⟨z, us, 0, r, Heap.get?_push_size _ rfl⟩, rfl, q _ hn (Nat.ne_of_gt I1.big)⟩
def rLstOfS (K : PySem.W.Frag) : List V → Hp → VK → Prop := fun xs H Q => ∃ p ys, xs = [.ref p] ∧ (SqL K H p ys ∨ SqT K H p ys) ∧ ∀ l, H l = none → l ≠ sysModules → Q (.ref l) (upd H l (.lst ys))
theorem lstOfS {X : Cx} {K : PySem.W.Frag} (eK : X.K = K := by rfl) : CallR X (.type "list") (rLstOfS K) := by
  cases eK
  intro pins s σ H xs us Q I r h
  obtain ⟨p, ys, rfl, hq, q⟩ := h
  obtain ⟨u, rfl, rx⟩ := vals1 r
  cases rx
  have fin : ∀ (its : List Value), Vals ys its → ys.length ≤ sizeLine → ∀ (h' : Heap) (c' : Nat), (∀ b o', s.heap.get? b = some o' → h'.get? b = some o') →
      h'.get? s.heap.objs.size = some { cls := .type "list", dict := none, data := .seq its.toArray c', slots := #[] } → EP X pins σ Q (.ref s.heap.objs.size) { s with heap := h' } := fun its r' hz h' c' kp e =>
    ⟨.ref s.heap.objs.size, _, I.laid (t' := s.toks) kp (Nat.le_refl _) (show ObjOk X.prog X.w _ h' _ (.lst ys) from ⟨hz, its, c', r', e⟩), rfl, q _ (I.hok.fresh (Nat.le_refl _)) (Nat.ne_of_gt I.big)⟩
  rcases hq with hq | hq
  · obtain ⟨its, r', pl, hz⟩ := I.list hq
    have hlen := r'.length
    obtain ⟨o, ho, hc, n, hd⟩ := pl.isList
    exact call_list_seq p (.inl rfl) ho hc hd (fun h' c' kp e => fin its r' hz h' c' kp e) (by simp only [List.size_toArray] <;> omega)
  · obtain ⟨its, r', pl, hz⟩ := I.tuple hq
    have hlen := r'.length
    obtain ⟨o, ho, hc, n, hd⟩ := pl
    exact call_list_seq p (.inr rfl) ho hc hd (fun h' c' kp e => fin its r' hz h' c' kp e) (by simp only [List.size_toArray] <;> omega)
/-! ### lists of things beside [] (wants odd0) -/
def rNeNil (K : PySem.W.Frag) : R2 := fun x y H Q => ∃ a b ys, x = .ref a ∧ y = .ref b ∧ SqL K H a ys ∧ SqL K H b [] ∧ Q (.bl (!ys.isEmpty)) H
def rEqNil (K : PySem.W.Frag) : R2 := fun x y H Q => ∃ a b ys, x = .ref a ∧ y = .ref b ∧ SqL K H a ys ∧ SqL K H b [] ∧ Q (.bl ys.isEmpty) H
theorem op_neNil {X : Cx} {K : PySem.W.Frag} (hu : X.A.units + 64 < cLine) (eK : X.K = K := by rfl) : OpR X (compareOp .NotEq) (rNeNil K) := by
  cases eK
  intro pins s σ H x y v u Q I rx ry h
  obtain ⟨a, b, ys, rfl, rfl, ha, hb, q⟩ := h
  cases rx
  cases ry
  obtain ⟨its, rv, hl, _⟩ := I.list ha
  obtain ⟨its2, rv2, hl2, _⟩ := I.list hb
  cases rv2
  cases rv with
  | nil => exact SeqAt.RcNeAt.lists (e := fun _ => true) hl.isList hl2.isList rfl (by omega) (fun j h1 h2 => absurd h1 (Nat.not_lt_zero _)) _ _ _ _ ⟨.bl _, H, I, rfl, q⟩
  | cons r rs => exact SeqAt.RcNeAt.lists_lengths hl.isList hl2.isList (by simp) (by omega) _ _ _ _ ⟨.bl _, H, I, rfl, q⟩
theorem op_eqNil {X : Cx} {K : PySem.W.Frag} (hu : X.A.units + 64 < cLine) (eK : X.K = K := by rfl) : OpR X (compareOp .Eq) (rEqNil K) := by
  cases eK
  intro pins s σ H x y v u Q I rx ry h
  obtain ⟨a, b, ys, rfl, rfl, ha, hb, q⟩ := h
  cases rx
  cases ry
  obtain ⟨its, rv, hl, _⟩ := I.list ha
  obtain ⟨its2, rv2, hl2, _⟩ := I.list hb
  cases rv2
  cases rv with
  | nil => exact SeqAt.RcAt.lists (e := fun _ => true) hl.isList hl2.isList rfl (by omega) (fun j h1 h2 => absurd h1 (Nat.not_lt_zero _)) _ _ _ _ ⟨.bl _, H, I, rfl, q⟩
  | cons r rs => exact SeqAt.RcAt.lists_lengths hl.isList hl2.isList (by simp) (by omega) _ _ _ _ ⟨.bl _, H, I, rfl, q⟩
/-! sizes of things -/
mutual
/-- the greatest number in a thing, by its amount -/
def ib : PyData → Nat
  | .int i => i.natAbs
  | .list xs => ibs xs
  | .tuple xs => ibs xs
  | .dict kvs => ibk kvs
  | _ => 0
def ibs : List PyData → Nat
  | [] => 0
  | x :: xs => max (ib x) (ibs xs)
def ibk : List (PyData × PyData) → Nat
  | [] => 0
  | (k, v) :: r => max (max (ib k) (ib v)) (ibk r)
end
mutual
theorem ib_sh : ∀ d : PyData, ib d ≤ 10 ^ 100 → d.showable = true
  | .none, _ => rfl
  | .bool _, _ => rfl
  | .str _, _ => rfl
  | .int i, h => by
    have h : i.natAbs ≤ 10 ^ 100 := h
    have : i.natAbs.log2 < 1920 := log_lt (by decide) (Nat.lt_of_le_of_lt h (by decide))
    simpa [PyData.showable] using this
  | .list xs, h => ibs_sh xs h
  | .tuple xs, h => ibs_sh xs h
  | .dict kvs, h => ibk_sh kvs h
theorem ibs_sh : ∀ xs : List PyData, ibs xs ≤ 10 ^ 100 → PyData.showableAll xs = true
  | [], _ => rfl
  | x :: xs, h => by
    have h : max (ib x) (ibs xs) ≤ 10 ^ 100 := h
    have h1 := ib_sh x (Nat.le_trans (Nat.le_max_left _ _) h)
    have h2 := ibs_sh xs (Nat.le_trans (Nat.le_max_right _ _) h)
    simp only [PyData.showableAll, h1, h2, Bool.and_self]
theorem ibk_sh : ∀ kvs : List (PyData × PyData), ibk kvs ≤ 10 ^ 100 → PyData.showableKv kvs = true
  | [], _ => rfl
  | (k, v) :: r, h => by
    have h : max (max (ib k) (ib v)) (ibk r) ≤ 10 ^ 100 := h
    have h1 := ib_sh k (Nat.le_trans (Nat.le_trans (Nat.le_max_left _ _) (Nat.le_max_left _ _)) h)
    have h2 := ib_sh v (Nat.le_trans (Nat.le_trans (Nat.le_max_right _ _) (Nat.le_max_left _ _)) h)
    have h3 := ibk_sh r (Nat.le_trans (Nat.le_max_right _ _) h)
    simp only [PyData.showableKv, h1, h2, h3, Bool.and_self]
end
/-- depth, length when shown, greatest number -/
structure Wg (d : PyData) (n c b : Nat) : Prop where
  dep : d.depth ≤ n
  len : wt d ≤ c
  big : ib d ≤ b
theorem Wg.mono {d : PyData} {n c b n' c' b' : Nat} (w : Wg d n c b) (h1 : n ≤ n') (h2 : c ≤ c') (h3 : b ≤ b') : Wg d n' c' b' := ⟨Nat.le_trans w.dep h1, Nat.le_trans w.len h2, Nat.le_trans w.big h3⟩
structure Wgs (ds : List PyData) (n c b : Nat) : Prop where
  dep : PyData.depthAll ds ≤ n
  len : wts ds ≤ c
  big : ibs ds ≤ b
theorem Wgs.nil {n c b : Nat} : Wgs [] n c b := ⟨Nat.zero_le _, Nat.zero_le _, Nat.zero_le _⟩
theorem Wgs.cons {d : PyData} {ds : List PyData} {n c c' b : Nat} (h : Wg d n c b) (t : Wgs ds n c' b) : Wgs (d :: ds) n (c + 4 + c') b :=
  ⟨by show max d.depth (PyData.depthAll ds) ≤ n; have := h.dep; have := t.dep; omega, by show wt d + 4 + wts ds ≤ _; have := h.len; have := t.len; omega, by show max (ib d) (ibs ds) ≤ b; have := h.big; have := t.big; omega⟩
theorem wts_app : ∀ (xs ys : List PyData), wts (xs ++ ys) = wts xs + wts ys
  | [], ys => by show wts ys = 0 + wts ys; omega
  | x :: xs, ys => by show wt x + 4 + wts (xs ++ ys) = wt x + 4 + wts xs + wts ys; rw [wts_app xs ys]; omega
theorem ibs_app : ∀ (xs ys : List PyData), ibs (xs ++ ys) = max (ibs xs) (ibs ys)
  | [], ys => by show ibs ys = max 0 (ibs ys); omega
  | x :: xs, ys => by show max (ib x) (ibs (xs ++ ys)) = max (max (ib x) (ibs xs)) (ibs ys); rw [ibs_app xs ys]; omega
theorem dps_app : ∀ (xs ys : List PyData), PyData.depthAll (xs ++ ys) = max (PyData.depthAll xs) (PyData.depthAll ys)
  | [], ys => by show PyData.depthAll ys = max 0 _; omega
  | x :: xs, ys => by show max x.depth (PyData.depthAll (xs ++ ys)) = max (max x.depth (PyData.depthAll xs)) _; rw [dps_app xs ys]; omega
theorem Wgs.app {xs ys : List PyData} {n c c' b : Nat} (h : Wgs xs n c b) (t : Wgs ys n c' b) : Wgs (xs ++ ys) n (c + c') b :=
  ⟨by rw [dps_app]; have := h.dep; have := t.dep; omega, by rw [wts_app]; have := h.len; have := t.len; omega, by rw [ibs_app]; have := h.big; have := t.big; omega⟩
theorem Wgs.sub {xs ys : List PyData} {n c b : Nat} (h : Wgs (xs ++ ys) n c b) : Wgs xs n c b ∧ Wgs ys n c b := by
  have h1 := h.dep
  have h2 := h.len
  have h3 := h.big
  rw [dps_app] at h1
  rw [wts_app] at h2
  rw [ibs_app] at h3
  exact ⟨⟨by omega, by omega, by omega⟩, ⟨by omega, by omega, by omega⟩⟩
theorem Wgs.mono {ds : List PyData} {n c b n' c' b' : Nat} (w : Wgs ds n c b) (h1 : n ≤ n') (h2 : c ≤ c') (h3 : b ≤ b') : Wgs ds n' c' b' := ⟨Nat.le_trans w.dep h1, Nat.le_trans w.len h2, Nat.le_trans w.big h3⟩
theorem Wg.tup {ds : List PyData} {n c b : Nat} (h : Wgs ds n c b) : Wg (.tuple ds) (n + 1) (c + 4) b := ⟨by show PyData.depthAll ds + 1 ≤ n + 1; have := h.dep; omega, by show wts ds + 4 ≤ c + 4; have := h.len; omega, h.big⟩
theorem Wg.lst {ds : List PyData} {n c b : Nat} (h : Wgs ds n c b) : Wg (.list ds) (n + 1) (c + 4) b := ⟨by show PyData.depthAll ds + 1 ≤ n + 1; have := h.dep; omega, by show wts ds + 4 ≤ c + 4; have := h.len; omega, h.big⟩
theorem Wg.untup {ds : List PyData} {n c b : Nat} (h : Wg (.tuple ds) n c b) : Wgs ds (n - 1) (c - 4) b := ⟨by have : PyData.depthAll ds + 1 ≤ n := h.dep; omega, by have : wts ds + 4 ≤ c := h.len; omega, h.big⟩
theorem Wgs.mem {ds : List PyData} {n c b : Nat} (h : Wgs ds n c b) {d : PyData} (hd : d ∈ ds) : Wg d n c b := by
  obtain ⟨xs, ys, rfl⟩ := List.append_of_mem hd
  have h2 := (h.sub).2
  refine ⟨?_, ?_, ?_⟩
  · have : max d.depth (PyData.depthAll ys) ≤ n := h2.dep
    omega
  · have : wt d + 4 + wts ys ≤ c := h2.len
    omega
  · have : max (ib d) (ibs ys) ≤ b := h2.big
    omega
theorem Wg.shw {d : PyData} {n c b : Nat} (w : Wg d n c b) (hb : b ≤ 10 ^ 100 := by decide) : d.showable = true := ib_sh d (Nat.le_trans w.big hb)
theorem Wg.sz {d : PyData} {n c b : Nat} (w : Wg d n c b) (hb : b ≤ 10 ^ 100 := by decide) (hc : c ≤ 10000000 := by decide) : d.shown.length ≤ sizeLine := shown_wz (w.shw hb) (Nat.le_trans w.len hc)
theorem ofS_cps (s : String) : ∀ c ∈ (Str.ofString s).cps.toList, c < 16 ^ 8 := by
  intro c hc
  rw [Str.ofString_eq_toList] at hc
  have hc : c ∈ s.toList.map Char.toNat := by simpa using hc
  obtain ⟨ch, _, rfl⟩ := List.mem_map.mp hc
  exact Nat.lt_of_lt_of_le ch.val.toBitVec.isLt (by decide : 2 ^ 32 ≤ 16 ^ 8)
theorem strI_wt (i : Int) (h : i.natAbs ≤ 10 ^ 100) : wt (.str (toString i)) ≤ 20000 := by
  have h0 : i.natAbs.log2 < 1920 := log_lt (by decide) (Nat.lt_of_le_of_lt h (by decide))
  have h1 := PyProof.Rows.int_text_len_1921 h0
  have h2 := StrLaws.reprText_len (toString i : String) (ofS_cps _)
  show (reprText (toString i : String)).length + 1 ≤ 20000
  omega
/-! ### things whose lists are none of some (wants odd0) -/
inductive ThL (K : PySem.W.Frag) (S : Addr → Prop) (H : Hp) : V → PyData → Prop
  | non : ThL K S H .non .none
  | bl (b : Bool) : ThL K S H (.bl b) (.bool b)
  | int (i : Int) : ThL K S H (.int i) (.int i)
  | str (x : Str) : ThL K S H (.str x) (.str x)
  | tup {a : Addr} {tr : List (V × PyData)} : H a = some (.tup (tr.map fun t => t.1)) → (∀ t ∈ tr, ThL K S H t.1 t.2) → ThL K S H (.ref a) (.tuple (tr.map fun t => t.2))
  | lst {a : Addr} {tr : List (V × PyData)} : ¬ S a → a ≠ sysModules → H a = some (.lst (tr.map fun t => t.1)) → (∀ t ∈ tr, ThL K S H t.1 t.2) → ThL K S H (.ref a) (.list (tr.map fun t => t.2))
  | dct {a : Addr} {tr : List (Int × V × PyData)} : H a = some (.dK (tr.map fun t => (Sum.inl t.1, t.2.1))) → (∀ t ∈ tr, ThL K S H t.2.1 t.2.2) → ThL K S H (.ref a) (.dict (tr.map fun t => (.int t.1, t.2.2)))
theorem ThL.th {K : PySem.W.Frag} {S : Addr → Prop} {p : Addr} {H : Hp} {v : V} {d : PyData} (h : ThL K S H v d) (hp : S p) : Th K p H v d := by
  induction h with
  | non => exact .non
  | bl b => exact .bl b
  | int i => exact .int i
  | str x => exact .str x
  | tup h1 _ ih => exact .tup h1 ih
  | lst n1 n2 h1 _ ih => exact .lst (fun z => n1 (z ▸ hp)) n2 h1 ih
  | dct h1 _ ih => exact .dct h1 ih
theorem ThL.same {K : PySem.W.Frag} {S : Addr → Prop} {H H' : Hp} {v : V} {d : PyData} (h : ThL K S H v d) (e : Same H H') : ThL K S H' v d := by
  induction h with
  | non => exact .non
  | bl b => exact .bl b
  | int i => exact .int i
  | str x => exact .str x
  | tup h1 _ ih => exact .tup (e _ _ h1) ih
  | lst n1 n2 h1 _ ih => exact .lst n1 n2 (e _ _ h1) ih
  | dct h1 _ ih => exact .dct (e _ _ h1) ih
/-- tuples, dicts and other lists stay -/
theorem ThL.keep {K : PySem.W.Frag} {S : Addr → Prop} {H H' : Hp} {v : V} {d : PyData} (h : ThL K S H v d) (e1 : ∀ a xs, H a = some (.tup xs) → H' a = some (.tup xs)) (e2 : ∀ a xs, ¬ S a → H a = some (.lst xs) → H' a = some (.lst xs)) (e3 : ∀ a kvs, H a = some (.dK kvs) → H' a = some (.dK kvs)) : ThL K S H' v d := by
  induction h with
  | non => exact .non
  | bl b => exact .bl b
  | int i => exact .int i
  | str x => exact .str x
  | tup h1 _ ih => exact .tup (e1 _ _ h1) ih
  | lst n1 n2 h1 _ ih => exact .lst n1 n2 (e2 _ _ n1 h1) ih
  | dct h1 _ ih => exact .dct (e3 _ _ h1) ih
theorem ThL.but {K : PySem.W.Frag} {S : Addr → Prop} {p : Addr} {H H' : Hp} {v : V} {d : PyData} {ys : List V} (h : ThL K S H v d) (hs : S p) (e : But p H H') (hp : H p = some (.lst ys)) : ThL K S H' v d :=
  h.keep (fun a xs h1 => e _ _ (ne_of h1 hp (by intro z; cases z)) h1) (fun a xs n h1 => e _ _ (fun z => n (z ▸ hs)) h1) (fun a kvs h1 => e _ _ (ne_of h1 hp (by intro z; cases z)) h1)
theorem ThL.mono {K : PySem.W.Frag} {S T : Addr → Prop} {H : Hp} {v : V} {d : PyData} (h : ThL K S H v d) (e : ∀ a, T a → S a) : ThL K T H v d := by
  induction h with
  | non => exact .non
  | bl b => exact .bl b
  | int i => exact .int i
  | str x => exact .str x
  | tup h1 _ ih => exact .tup h1 ih
  | lst n1 n2 h1 _ ih => exact .lst (fun z => n1 (e _ z)) n2 h1 ih
  | dct h1 _ ih => exact .dct h1 ih
/-! ### numbers within bounds, as things (wants odd0) -/
def isR (d : PyData) (a b : Int) : Bool := match d with
  | .int i => decide (a ≤ i) && decide (i ≤ b)
  | _ => false
def isF (d : PyData) (a : Int) : Bool := match d with
  | .int i => decide (a ≤ i)
  | _ => false
theorem isR_no {d : PyData} {a b : Int} (h : isWh d = false) : isR d a b = false := by cases d <;> first | rfl | cases h
theorem isF_no {d : PyData} {a : Int} (h : isWh d = false) : isF d a = false := by cases d <;> first | rfl | cases h
theorem isR_inv {d : PyData} {a b : Int} (h : isR d a b = true) : ∃ i, d = .int i ∧ a ≤ i ∧ i ≤ b := by
  cases d with
  | int i =>
    have h : (decide (a ≤ i) && decide (i ≤ b)) = true := h
    rw [Bool.and_eq_true, decide_eq_true_iff, decide_eq_true_iff] at h
    exact ⟨i, rfl, h.1, h.2⟩
  | _ => cases h
theorem isR_mk {i a b : Int} (h1 : a ≤ i) (h2 : i ≤ b) : isR (.int i) a b = true := by
  show (decide (a ≤ i) && decide (i ≤ b)) = true
  rw [decide_eq_true h1, decide_eq_true h2] <;> rfl
theorem isF_inv {d : PyData} {a : Int} (h : isF d a = true) : ∃ i, d = .int i ∧ a ≤ i := by
  cases d with
  | int i => exact ⟨i, rfl, of_decide_eq_true h⟩
  | _ => cases h
/-- bounds, the upper one perhaps none -/
def oW : Option Int → V
  | none => .non
  | some i => .int i
def isB (d : PyData) (a : Int) : Option Int → Bool
  | none => isF d a
  | some b => isR d a b
theorem isB_no {d : PyData} {a : Int} {o : Option Int} (h : isWh d = false) : isB d a o = false := by
  cases o with
  | none => exact isF_no h
  | some b => exact isR_no h
theorem isB_low {i a : Int} {o : Option Int} (h : i < a) : isB (.int i) a o = false := by
  cases o with
  | none => exact decide_eq_false (by omega)
  | some b =>
    show (decide (a ≤ i) && decide (i ≤ b)) = false
    rw [decide_eq_false (by omega), Bool.false_and]
theorem isB_hi {i a b : Int} (h : b < i) : isB (.int i) a (some b) = false := by
  show (decide (a ≤ i) && decide (i ≤ b)) = false
  rw [decide_eq_false (show ¬ i ≤ b by omega), Bool.and_false]
/-! ### list * int, what comes is none of the modules' table -/
def rRepS : R2 := fun x y H Q => ∃ l k xs, x = .ref l ∧ y = .int k ∧ H l = some (.lst xs) ∧ 0 ≤ k ∧ k < 2 ^ 63 ∧ xs.length * k.toNat ≤ sizeLine ∧
  ∀ p, H p = none → p ≠ sysModules → Q (.ref p) (upd H p (.lst (List.replicate k.toNat xs).flatten))
theorem op_repS {X : Cx} : OpR X (binaryOp .Mult) rRepS := by
  rintro pins s σ H x y v u Q J ra rb ⟨a, m, ys, rfl, rfl, at_, m0, m1, mz, go⟩
  obtain ⟨tk, rfl⟩ := rb
  cases ra
  obtain ⟨z, us, cap, rel, eqL, get⟩ := J.lstM at_
  have zz : us.toArray.size * m.toNat ≤ sizeLine := by
    rw [List.size_toArray, ← eqL]
    exact mz
  have c1 : ¬ us.toArray.size * m.toNat > (2 ^ 63 - 1) / 8 := Nat.not_lt.mpr (Nat.le_trans zz (by decide))
  have c2 : ¬ (!Builtin.List.listFitsIndex m) = true := fun w => by
    rw [fitsIndex_both (Int.le_trans (by decide) m0) m1] at w
    cases w
  have c3 : ¬ Builtin.List.listTooLong (us.toArray.size * m.toNat) = true := fun w => by
    rw [notLongL zz] at w
    cases w
  have flat : List.foldl (fun q1 q2 => q1 ++ q2) #[] (List.replicate (if us.toArray.isEmpty = true then 0 else m.toNat) us.toArray) = (List.replicate m.toNat us).flatten.toArray := by
    have base : ∀ n : Nat, List.foldl (fun q1 q2 => q1 ++ q2) #[] (List.replicate n us.toArray) = (List.replicate n us).flatten.toArray := fun n => by
      simpa using foldl_rep us n []
    rw [base]
    match us with
    | [] => simp
    | _ :: _ => rw [if_neg (by simp)]
  have inner := AutoListH.list___mul___list_int_3 a us.toArray cap m tk c2 c1 c3
  have met := int___rmul___int_list m tk a us.toArray cap
  refine wpAny_binaryOp_repeat_ref (T := "list") (U := "int") (by decide) ⟨_, get, rfl⟩
    (fun s2 => typeIs_int s2 m tk) noFill_list_mul
    F.fills_int_mul F.slot_int_rmul repeat_list
    F.slot_int_index.lookup ?_
  refine call_meets F.slot_int_rmul (typeIs_int s m tk)
    F.entry_int_rmul (F.args_int_rmul_2 _ _) met
    ⟨get, rfl, ⟨_, get, rfl⟩, ?_⟩
  refine call_meets F.slot_list_mul ⟨_, get, rfl⟩
    F.entry_list_mul (F.args_list_mul_2 _ _) inner
    ⟨get, ?_⟩
  rw [flat]
  have long : (List.replicate m.toNat ys).flatten.length ≤ sizeLine := by
    rw [PyProof.Rows.lm_len_rep_flat, Nat.mul_comm]
    exact mz
  exact ⟨.ref _, _, J.lnew (t' := s.toks) (rel.rep m.toNat) long, rfl, go _ J.fresh (Nat.ne_of_gt J.big)⟩
/-! ### trees of things: plain law (wants odd1) -/
mutual
/-- the leaves from left to right; None where a tuple is none of two -/
def lv : PyData → List PyData
  | .tuple ds => (match lvs ds with | [a, b] => a ++ b | _ => [.none])
  | .none => [.none]
  | .bool b => [.bool b]
  | .int i => [.int i]
  | .str s => [.str s]
  | .list xs => [.list xs]
  | .dict k => [.dict k]
def lvs : List PyData → List (List PyData)
  | [] => []
  | x :: r => lv x :: lvs r
end
theorem lvs_len : ∀ ds : List PyData, (lvs ds).length = ds.length
  | [] => rfl
  | _ :: r => congrArg (· + 1) (lvs_len r)
theorem lv_two (x y : PyData) : lv (.tuple [x, y]) = lv x ++ lv y := rfl
theorem lv_not {ds : List PyData} (h : ds.length ≠ 2) : lv (.tuple ds) = [.none] := by
  show (match lvs ds with | [a, b] => a ++ b | _ => [.none]) = [.none]
  have := lvs_len ds
  match e : lvs ds with
  | [] => rfl
  | [_] => rfl
  | [a, b] => rw [e] at this; exact absurd this.symm h
  | _ :: _ :: _ :: _ => rfl
theorem lv_leaf {d : PyData} (h : isTu d = false) : lv d = [d] := by cases d <;> first | rfl | cases h
mutual
def nsz : PyData → Nat
  | .tuple ds => 1 + nszs ds
  | _ => 1
def nszs : List PyData → Nat
  | [] => 0
  | x :: r => nsz x + nszs r
end
mutual
theorem nsz_wt : ∀ d : PyData, nsz d ≤ wt d
  | .none => by show 1 ≤ 5; decide
  | .bool _ => by show 1 ≤ 5; decide
  | .int _ => by show 1 ≤ 1921; decide
  | .str x => Nat.le_add_left 1 _
  | .list xs => by show 1 ≤ wts xs + 4; omega
  | .dict k => by show 1 ≤ wtk k + 4; omega
  | .tuple ds => by
    have := nszs_wt ds
    show 1 + nszs ds ≤ wts ds + 4
    omega
theorem nszs_wt : ∀ ds : List PyData, nszs ds ≤ wts ds
  | [] => Nat.zero_le _
  | x :: r => by
    have h1 := nsz_wt x
    have h2 := nszs_wt r
    show nsz x + nszs r ≤ wt x + 4 + wts r
    omega
end
theorem nsz_pos : ∀ d : PyData, 1 ≤ nsz d
  | .none => Nat.le_refl _
  | .bool _ => Nat.le_refl _
  | .int _ => Nat.le_refl _
  | .str _ => Nat.le_refl _
  | .list _ => Nat.le_refl _
  | .dict _ => Nat.le_refl _
  | .tuple _ => Nat.le_add_right _ _
theorem nszs_len : ∀ ds : List PyData, ds.length ≤ nszs ds
  | [] => Nat.le_refl _
  | x :: r => by
    have h1 := nsz_pos x
    have h2 := nszs_len r
    show r.length + 1 ≤ nsz x + nszs r
    omega
mutual
theorem lv_nsz : ∀ d : PyData, (lv d).length ≤ nsz d
  | .none => Nat.le_refl _
  | .bool _ => Nat.le_refl _
  | .int _ => Nat.le_refl _
  | .str _ => Nat.le_refl _
  | .list _ => Nat.le_refl _
  | .dict _ => Nat.le_refl _
  | .tuple ds => by
    by_cases h : ds.length = 2
    · match ds, h with
      | [x, y], _ =>
        rw [lv_two, List.length_append]
        have h1 := lv_nsz x
        have h2 := lv_nsz y
        show _ ≤ 1 + (nsz x + (nsz y + 0))
        omega
    · rw [lv_not h]
      exact Nat.le_add_right _ _
end
def wv : PyData → Int
  | .int i => i
  | _ => -1
def isT (d : PyData) (m : Nat) : Bool := (lv d).all isWh && decide ((lv d).map wv = (List.range m).map fun n : Nat => (n : Int))
def ris (c : Nat) : List PyData := (List.range c).map fun n : Nat => PyData.int (n : Int)
theorem ris_wh (c : Nat) : (ris c).all isWh = true := by
  unfold ris
  rw [List.all_eq_true]
  intro x hx
  obtain ⟨n, _, rfl⟩ := List.mem_map.mp hx
  rfl
theorem ris_wv (c : Nat) : (ris c).map wv = (List.range c).map fun n : Nat => (n : Int) := by unfold ris; rw [List.map_map] <;> rfl
theorem isT_end {d : PyData} {c m : Nat} (h : lv d = ris c) : isT d m = decide (c = m) := by
  unfold isT
  rw [h, ris_wh, ris_wv, Bool.true_and]
  by_cases e : c = m
  · subst e
    rw [decide_eq_true rfl, decide_eq_true rfl]
  · rw [decide_eq_false e, decide_eq_false]
    intro z
    have := congrArg List.length z
    rw [List.length_map, List.length_map, List.length_range, List.length_range] at this
    exact e this
theorem isT_no {d e : PyData} {r : List PyData} {c m : Nat} (h : lv d = ris c ++ e :: r) (he : isWh e = false ∨ wv e ≠ (c : Int)) : isT d m = false := by
  unfold isT
  rw [h]
  rcases he with he | he
  · rw [List.all_append, List.all_cons, he, Bool.false_and, Bool.and_false, Bool.false_and]
  · rw [decide_eq_false, Bool.and_false]
    intro z
    have h1 : ((ris c ++ e :: r).map wv)[c]? = some (wv e) := by
      have lc : (ris c).length = c := by unfold ris; rw [List.length_map, List.length_range]
      rw [List.getElem?_map, List.getElem?_append_right (by omega), lc, Nat.sub_self] <;> rfl
    rw [z, List.getElem?_map] at h1
    by_cases cm : c < m
    · rw [List.getElem?_range cm] at h1
      exact he (Option.some.inj h1).symm
    · rw [List.getElem?_eq_none (by rw [List.length_range]; omega)] at h1
      cases h1
theorem ris_succ (c : Nat) : ris (c + 1) = ris c ++ [.int (c : Nat)] := by unfold ris; rw [List.range_succ, List.map_append] <;> rfl
def szV (ts : List (V × PyData)) : Nat := nszs (ts.map fun t => t.2)
/-! ### trees of numbers as things (wants st2t, odd1, st21d) -/
def IsRow : Tr → Nat → Prop
  | .leaf n, f => n = f
  | .node l r, f => IsRow l f ∧ IsRow r (f + l.cnt)
theorem Tr.cnt_pos : ∀ t : Tr, 1 ≤ t.cnt
  | .leaf _ => Nat.le_refl _
  | .node l r => Nat.le_trans l.cnt_pos (Nat.le_add_right _ _)
theorem Tr.h_cnt : ∀ t : Tr, t.h ≤ t.cnt
  | .leaf _ => Nat.le_refl _
  | .node l r => by
    have := l.h_cnt; have := r.h_cnt; have := l.cnt_pos; have := r.cnt_pos
    show max l.h r.h + 1 ≤ l.cnt + r.cnt
    omega
theorem IsRow.big : ∀ {t : Tr} {f : Nat}, IsRow t f → t.big ≤ f + t.cnt
  | .leaf n, f, h => by cases (show n = f from h); exact Nat.le_add_right _ _
  | .node l r, f, ⟨h1, h2⟩ => by
    have := h1.big; have := h2.big
    show max l.big r.big ≤ f + (l.cnt + r.cnt)
    omega
theorem lv_row : ∀ {t : Tr} {f : Nat}, IsRow t f → lv t.d = (List.range' f t.cnt).map fun n : Nat => PyData.int (n : Int)
  | .leaf n, f, h => by cases (show n = f from h); rfl
  | .node l r, f, ⟨h1, h2⟩ => by
    show lv (.tuple [l.d, r.d]) = (List.range' f (l.cnt + r.cnt)).map _
    rw [lv_two, lv_row h1, lv_row h2, ← List.map_append, List.range'_append_1]
theorem lv_row0 {t : Tr} (h : IsRow t 0) : lv t.d = ris t.cnt := by
  rw [lv_row h]
  unfold ris
  rw [List.range_eq_range']
theorem TrAt.th {K : PySem.W.Frag} {p : Addr} {H : Hp} : ∀ {t : Tr} {v : V}, TrAt H v t → Th K p H v t.d
  | .leaf n, _, h => by
    cases (show _ = V.int n from h)
    exact .int n
  | .node l r, _, ⟨a, x, y, h1, h2, h3, h4⟩ => by
    cases h1
    refine Th.tup (tr := [(x, l.d), (y, r.d)]) h2 fun t ht => ?_
    simp only [List.mem_cons, List.not_mem_nil, or_false] at ht
    rcases ht with rfl | rfl
    · exact h3.th
    · exact h4.th
theorem Tr.wg : ∀ {t : Tr} {b : Nat}, t.big ≤ b → Wg t.d t.h (1940 * t.cnt - 12) b ∧ t.d.depth + 1 ≤ t.h
  | .leaf n, b, h => ⟨⟨Nat.zero_le _, by show 1921 ≤ 1940 * 1 - 12; decide, h⟩, Nat.le_refl _⟩
  | .node l r, b, h => by
    have h' : max l.big r.big ≤ b := h
    obtain ⟨w1, h1⟩ := Tr.wg (t := l) (b := b) (by omega)
    obtain ⟨w2, h2⟩ := Tr.wg (t := r) (b := b) (by omega)
    have a1 := w1.len
    have a2 := w2.len
    have b1 := w1.big
    have b2 := w2.big
    have c1 := l.cnt_pos
    have c2 := r.cnt_pos
    refine ⟨⟨?_, ?_, ?_⟩, ?_⟩
    · show max l.d.depth (max r.d.depth 0) + 1 ≤ max l.h r.h + 1
      omega
    · show (wt l.d + 4 + (wt r.d + 4 + 0)) + 4 ≤ 1940 * (l.cnt + r.cnt) - 12
      omega
    · show max (ib l.d) (max (ib r.d) 0) ≤ b
      omega
    · show max l.d.depth (max r.d.depth 0) + 1 + 1 ≤ max l.h r.h + 1
      omega
theorem cut_toU {xs : List V} (n : Nat) : cutV xs none (some (n : Int)) = xs.take n := by
  unfold cutV
  rw [HT.sIx_nat, HT.sIx_none, List.drop_zero, Nat.sub_zero]
  by_cases c : n ≤ xs.length
  · rw [Nat.min_eq_left c]
  · rw [Nat.min_eq_right (by omega), List.take_length, List.take_of_length_le (by omega)]
theorem cut_fromU {xs : List V} (n : Nat) : cutV xs (some (n : Int)) none = xs.drop n := by
  unfold cutV
  rw [HT.sIx_nat, HT.sIx_none]
  by_cases h : n ≤ xs.length
  · rw [Nat.min_eq_left h, List.take_of_length_le (by rw [List.length_drop] <;> exact Nat.le_refl _)]
  · rw [Nat.min_eq_right (by omega), Nat.sub_self, List.take_zero, List.drop_of_length_le (by omega)]
theorem cut_midU {xs : List V} (n m : Nat) (h : n ≤ xs.length) : cutV xs (some (n : Int)) (some (m : Int)) = (xs.drop n).take (m - n) := by
  unfold cutV
  rw [HT.sIx_nat, HT.sIx_nat, Nat.min_eq_left h]
  by_cases c : m ≤ xs.length
  · rw [Nat.min_eq_left c]
  · rw [Nat.min_eq_right (by omega), List.take_of_length_le (by rw [List.length_drop] <;> exact Nat.le_refl _), List.take_of_length_le (by rw [List.length_drop]; omega)]
theorem Wgs.ex {xs : List PyData} {n c b : Nat} (h : Wgs xs n c b) : Wgs xs n (wts xs) b := ⟨h.dep, Nat.le_refl _, h.big⟩
theorem Wg.ex {d : PyData} {n c b : Nat} (h : Wg d n c b) : Wg d n (wt d) b := ⟨h.dep, Nat.le_refl _, h.big⟩
theorem wts_len : ∀ xs : List PyData, xs.length ≤ wts xs
  | [] => Nat.le_refl _
  | x :: r => by
    have := wts_len r
    show r.length + 1 ≤ wt x + 4 + wts r
    omega
/-! ### deeds, boards, asks as things: plain law (wants odd1) -/
def isNo : PyData → Bool
  | .none => true
  | _ => false
theorem isNo_inv {d : PyData} (h : isNo d = true) : d = .none := by cases d <;> first | rfl | cases h
theorem Th.no_dec {K : PySem.W.Frag} {p : Addr} {H : Hp} {v : V} {d : PyData} (h : Th K p H v d) : decide (v = V.non) = isNo d := by
  cases h <;> rfl
def isEnd (d : PyData) : Bool := isNo d || isWh d
def isN (n : Nat) : PyData → Bool
  | .tuple ds => decide (ds.length = n)
  | _ => false
theorem isN_tu {n : Nat} {d : PyData} (h : isN n d = true) : ∃ ds, d = .tuple ds ∧ ds.length = n := by
  cases d with
  | tuple ds => exact ⟨ds, rfl, of_decide_eq_true h⟩
  | _ => cases h
theorem isN_no {n : Nat} {d : PyData} (h : isTu d = false) : isN n d = false := by cases d <;> first | rfl | cases h
/-- ends in order -/
def okE : PyData → PyData → PyData → Bool
  | .int a, .int l, .int h => decide (l < h) || (decide (l = h) && decide (a = 0))
  | _, _, _ => true
def isDd : PyData → Bool
  | .tuple [a, l, h] => isWh a && (isEnd l && (isEnd h && okE a l h))
  | _ => false
theorem isDd_no {d : PyData} (h : isN 3 d = false) : isDd d = false := by
  cases d with
  | tuple ds =>
    match ds, h with
    | [], _ => rfl
    | [_], _ => rfl
    | [_, _], _ => rfl
    | [_, _, _], h => cases h
    | _ :: _ :: _ :: _ :: _, _ => rfl
  | _ => rfl
def isBd : PyData → Bool
  | .tuple ds => decide (1 ≤ ds.length) && (decide (ds.length ≤ 16) && ds.all isWh)
  | _ => false
theorem isBd_no {d : PyData} (h : isTu d = false) : isBd d = false := by cases d <;> first | rfl | cases h
theorem isBd_tu {d : PyData} (h : isBd d = true) : ∃ ds, d = .tuple ds ∧ 1 ≤ ds.length ∧ ds.length ≤ 16 ∧ ds.all isWh = true := by
  cases d with
  | tuple ds =>
    have h : (decide (1 ≤ ds.length) && (decide (ds.length ≤ 16) && ds.all isWh)) = true := h
    rw [Bool.and_eq_true, Bool.and_eq_true, decide_eq_true_iff, decide_eq_true_iff] at h
    exact ⟨ds, rfl, h.1, h.2.1, h.2.2⟩
  | _ => cases h
def wnD : PyData → Int
  | .int i => i
  | _ => -1
def isAk (nb : Nat) : PyData → Bool
  | .tuple [h, b, e] => isWh h && (isWh b && ((decide (0 ≤ wnD h) && decide (wnD h < 16)) && ((decide (0 ≤ wnD b) && decide (wnD b < (nb : Int))) && isDd e)))
  | _ => false
theorem isAk_no {nb : Nat} {d : PyData} (h : isN 3 d = false) : isAk nb d = false := by
  cases d with
  | tuple ds =>
    match ds, h with
    | [], _ => rfl
    | [_], _ => rfl
    | [_, _], _ => rfl
    | [_, _, _], h => cases h
    | _ :: _ :: _ :: _ :: _, _ => rfl
  | _ => rfl
def isAs (nb : Nat) : PyData → Bool
  | .tuple ds => ds.all (isAk nb)
  | _ => false
theorem isAs_no {nb : Nat} {d : PyData} (h : isTu d = false) : isAs nb d = false := by cases d <;> first | rfl | cases h
theorem len_map1 {tr : List (V × PyData)} : (tr.map fun t => t.1).length = tr.length := List.length_map _
theorem len_map2 {tr : List (V × PyData)} : (tr.map fun t => t.2).length = tr.length := List.length_map _
theorem take_all {tr : List (V × PyData)} (f : PyData → Bool) : ((tr.take (tr.map fun t => t.1).length).map fun t => f t.2).all id = (tr.map fun t => t.2).all f := by
  rw [len_map1, List.take_length, List.all_map, List.all_map] <;> rfl
theorem take_snocB {tr : List (V × PyData)} {i : Nat} {t : V × PyData} (f : PyData → Bool) (h : tr[i]? = some t) : (((tr.take i).map fun t => f t.2).map V.bl) ++ [V.bl (f t.2)] = ((tr.take (i + 1)).map fun t => f t.2).map V.bl := by
  rw [List.take_succ, h, List.map_append, List.map_append] <;> rfl
theorem dec_ne' {n m : Nat} (h : n ≠ m) : (!decide (V.int (n : Int) = V.int (m : Int))) = true := by rw [decide_eq_false fun z => h (by injection z with z; omega)] <;> rfl
def tlen : PyData → Nat
  | .tuple ds => ds.length
  | _ => 0
mutual
/-- tuples of plain things -/
def lf : PyData → Bool
  | .tuple ds => lfs ds
  | .list _ => false
  | .dict _ => false
  | .none => true
  | .bool _ => true
  | .int _ => true
  | .str _ => false
def lfs : List PyData → Bool
  | [] => true
  | d :: r => lf d && lfs r
end
mutual
def byT : PyData → PyData
  | .tuple ds => .tuple (byTs ds)
  | .int i => if 0 ≤ i ∧ i < 2 then .bool (decide (i = 1)) else .int i
  | .list ds => .list ds
  | .dict k => .dict k
  | .none => .none
  | .bool b => .bool b
  | .str s => .str s
def byTs : List PyData → List PyData
  | [] => []
  | d :: r => byT d :: byTs r
end
theorem byTs_map : ∀ ds, byTs ds = ds.map byT
  | [] => rfl
  | d :: r => by show byT d :: byTs r = byT d :: r.map byT; rw [byTs_map r]
theorem lfs_mem : ∀ {ds : List PyData}, lfs ds = true → ∀ d ∈ ds, lf d = true
  | x :: r, h, d, hd => by
    have h : (lf x && lfs r) = true := h
    rw [Bool.and_eq_true] at h
    rcases List.mem_cons.mp hd with rfl | hd
    · exact h.1
    · exact lfs_mem h.2 d hd
theorem lfs_of : ∀ {ds : List PyData}, (∀ d ∈ ds, lf d = true) → lfs ds = true
  | [], _ => rfl
  | x :: r, h => by
    show (lf x && lfs r) = true
    rw [h x List.mem_cons_self, lfs_of fun d hd => h d (List.mem_cons_of_mem _ hd)] <;> rfl
mutual
theorem byT_lf : ∀ d, lf d = true → lf (byT d) = true
  | .tuple ds, h => byTs_lf ds h
  | .int i, _ => by
    show lf (if 0 ≤ i ∧ i < 2 then .bool (decide (i = 1)) else .int i) = true
    split <;> rfl
  | .none, _ => rfl
  | .bool _, _ => rfl
theorem byTs_lf : ∀ ds, lfs ds = true → lfs (byTs ds) = true
  | [], _ => rfl
  | d :: r, h => by
    have h : (lf d && lfs r) = true := h
    rw [Bool.and_eq_true] at h
    show (lf (byT d) && lfs (byTs r)) = true
    rw [byT_lf d h.1, byTs_lf r h.2] <;> rfl
end
theorem Th.sw {K : PySem.W.Frag} {p q : Addr} {H : Hp} {v : V} {d : PyData} (h : Th K p H v d) : lf d = true → Th K q H v d := by
  induction h with
  | non => exact fun _ => .non
  | bl b => exact fun _ => .bl b
  | int i => exact fun _ => .int i
  | str x => exact fun e => by cases e
  | tup h1 _ ih => exact fun e => .tup h1 fun t ht => ih t ht (lfs_mem e _ (List.mem_map_of_mem (f := fun t : V × PyData => t.2) ht))
  | lst _ _ _ _ _ => exact fun e => by cases e
  | dct _ _ _ => exact fun e => by cases e
theorem Th.butL {K : PySem.W.Frag} {p D : Addr} {H H' : Hp} {v : V} {d : PyData} {ys : List V} (h : Th K p H v d) (e : lf d = true) (b : But D H H') (hD : H D = some (.lst ys)) : Th K p H' v d := ((h.sw (q := D) e).but b hD).sw e
theorem Th.lfdp {K : PySem.W.Frag} {p : Addr} {H : Hp} {v : V} {d : PyData} (h : Th K p H v d) (e : lf d = true) (t : isTu d = false) : Dp K H v d ∧ SeqAt.shaped d = true := by
  cases h with
  | non => exact ⟨.non, rfl⟩
  | bl b => exact ⟨.bl b, rfl⟩
  | int i => exact ⟨.int i, rfl⟩
  | str x => cases e
  | tup _ _ => cases t
  | lst _ _ _ _ => cases e
  | dct _ _ => cases e
theorem dep_mem : ∀ {ds : List PyData} {d : PyData}, d ∈ ds → d.depth ≤ PyData.depthAll ds ∧ nsz d ≤ nszs ds
  | x :: r, d, h => by
    rcases List.mem_cons.mp h with rfl | h
    · exact ⟨Nat.le_max_left _ _, Nat.le_add_right _ _⟩
    · obtain ⟨h1, h2⟩ := dep_mem h
      exact ⟨Nat.le_trans h1 (Nat.le_max_right _ _), Nat.le_trans h2 (Nat.le_add_left _ _)⟩
mutual
theorem byT_nsz : ∀ d, nsz (byT d) = nsz d
  | .tuple ds => congrArg (1 + ·) (byTs_nsz ds)
  | .int i => by
    show nsz (if 0 ≤ i ∧ i < 2 then .bool (decide (i = 1)) else .int i) = 1
    split <;> rfl
  | .none => rfl
  | .bool _ => rfl
  | .str _ => rfl
  | .list _ => rfl
  | .dict _ => rfl
theorem byTs_nsz : ∀ ds, nszs (byTs ds) = nszs ds
  | [] => rfl
  | d :: r => by
    show nsz (byT d) + nszs (byTs r) = nsz d + nszs r
    rw [byT_nsz d, byTs_nsz r]
end
/-! ### boards and asks as things (wants st2d, st22d, st22r) -/
theorem ints_th {K : PySem.W.Frag} {p a : Addr} {H : Hp} {bs : List Int} (h : H a = some (.tup (bs.map V.int))) : Th K p H (.ref a) (intsD bs) := by
  have := Th.tup (K := K) (p := p) (tr := bs.map fun i => (V.int i, PyData.int i)) (by rw [List.map_map]; exact h) fun t ht => by
    obtain ⟨i, _, rfl⟩ := List.mem_map.mp ht
    exact .int i
  rw [List.map_map] at this
  exact this
theorem end_th {K : PySem.W.Frag} {p : Addr} {H : Hp} (o : Option Int) : Th K p H (oV o) (po o) := by
  cases o with
  | none => exact .non
  | some i => exact .int i
theorem dd_th {K : PySem.W.Frag} {p a : Addr} {H : Hp} {d : Dd} (h : H a = some (.tup d.vs)) : Th K p H (.ref a) (pd d) := by
  refine Th.tup (tr := [(.int d.add, .int d.add), (oV d.low, po d.low), (oV d.high, po d.high)]) h fun t ht => ?_
  simp only [List.mem_cons, List.not_mem_nil, or_false] at ht
  rcases ht with rfl | rfl | rfl
  · exact .int _
  · exact end_th _
  · exact end_th _
theorem Ak.at_.th {K : PySem.W.Frag} {p : Addr} {H : Hp} {nb : Nat} {x : Ak} (h : x.at_ H nb) : Th K p H (.ref x.a) x.pd := by
  refine Th.tup (tr := [(.int x.hand, .int x.hand), (.int x.box, .int x.box), (.ref x.da, Toy.pd x.d)]) h.1 fun t ht => ?_
  simp only [List.mem_cons, List.not_mem_nil, or_false] at ht
  rcases ht with rfl | rfl | rfl
  · exact .int _
  · exact .int _
  · exact dd_th h.2.1.1
theorem AsksAt.th {K : PySem.W.Frag} {p k : Addr} {H : Hp} {as : List Ak} {nb : Nat} (h : AsksAt H k as nb) : Th K p H (.ref k) (akD as) := by
  have := Th.tup (K := K) (p := p) (tr := as.map fun x => (V.ref x.a, x.pd)) (by rw [List.map_map]; exact h.1) fun t ht => by
    obtain ⟨x, hx, rfl⟩ := List.mem_map.mp ht
    exact (h.2.2 x hx).th
  rw [List.map_map] at this
  exact this
theorem isBd_ints {bs : List Int} (h1 : 1 ≤ bs.length) (h2 : bs.length ≤ 16) : isBd (intsD bs) = true := by
  show (decide (1 ≤ (bs.map PyData.int).length) && (decide ((bs.map PyData.int).length ≤ 16) && (bs.map PyData.int).all isWh)) = true
  rw [List.length_map, decide_eq_true h1, decide_eq_true h2, Bool.true_and, Bool.true_and, List.all_eq_true]
  intro x hx
  obtain ⟨i, _, rfl⟩ := List.mem_map.mp hx
  rfl
theorem isEnd_po (o : Option Int) : isEnd (po o) = true := by cases o <;> rfl
theorem isDd_pd {d : Dd} (h : d.Ok) : isDd (pd d) = true := by
  show (true && (isEnd (po d.low) && (isEnd (po d.high) && okE (.int d.add) (po d.low) (po d.high)))) = true
  rw [isEnd_po, isEnd_po]
  obtain ⟨add, low, high⟩ := d
  cases low with
  | none => rfl
  | some l =>
    cases high with
    | none => rfl
    | some u =>
      show (decide (l < u) || (decide (l = u) && decide (add = 0))) = true
      rcases h l u rfl rfl with h | ⟨h1, h2⟩
      · rw [decide_eq_true h, Bool.true_or]
      · rw [decide_eq_true h1, decide_eq_true h2, Bool.or_eq_true]
        exact .inr rfl
theorem isAk_pd {H : Hp} {nb : Nat} {x : Ak} (h : x.at_ H nb) : isAk nb x.pd = true := by
  show (true && (true && ((decide (0 ≤ x.hand) && decide (x.hand < 16)) && ((decide (0 ≤ (x.box : Int)) && decide ((x.box : Int) < (nb : Int))) && isDd (pd x.d))))) = true
  obtain ⟨_, h2, h3, h4, h5⟩ := h
  rw [isDd_pd h2.2.2, decide_eq_true h3, decide_eq_true h4, decide_eq_true (show (0 : Int) ≤ (x.box : Int) by omega), decide_eq_true (show (x.box : Int) < (nb : Int) by omega)] <;> rfl
theorem isAs_ak {H : Hp} {k : Addr} {as : List Ak} {nb : Nat} (h : AsksAt H k as nb) : isAs nb (akD as) = true := by
  show (as.map Ak.pd).all (isAk nb) = true
  rw [List.all_eq_true]
  intro x hx
  obtain ⟨y, hy, rfl⟩ := List.mem_map.mp hx
  exact isAk_pd (h.2.2 y hy)
theorem lf_ints {bs : List Int} : lf (intsD bs) = true := lfs_of fun d hd => by
  obtain ⟨i, _, rfl⟩ := List.mem_map.mp hd
  rfl
theorem lf_po (o : Option Int) : lf (po o) = true := by cases o <;> rfl
theorem lf_pd {d : Dd} : lf (pd d) = true := by
  show (true && (lf (po d.low) && (lf (po d.high) && true))) = true
  rw [lf_po, lf_po] <;> rfl
theorem lf_akp {x : Ak} : lf x.pd = true := by
  show (true && (true && (lf (pd x.d) && true))) = true
  rw [lf_pd] <;> rfl
theorem lf_ak {as : List Ak} : lf (akD as) = true := lfs_of fun d hd => by
  obtain ⟨x, _, rfl⟩ := List.mem_map.mp hd
  exact lf_akp
/-- lengths, depths, numbers -/
theorem Wgs.all {ds : List PyData} {n c b m : Nat} (h : ∀ d ∈ ds, Wg d n c b) (hl : ds.length ≤ m) : Wgs ds n ((c + 4) * m) b := by
  have : Wgs ds n ((c + 4) * ds.length) b := by
    clear hl
    induction ds with
    | nil => exact Wgs.nil
    | cons d r ih =>
      refine (Wgs.cons (h d List.mem_cons_self) (ih fun x hx => h x (List.mem_cons_of_mem _ hx))).mono (Nat.le_refl _) ?_ (Nat.le_refl _)
      rw [List.length_cons, Nat.mul_add, Nat.mul_one]
      omega
  exact this.mono (Nat.le_refl _) (Nat.mul_le_mul_left _ hl) (Nat.le_refl _)
theorem int_wg {i : Int} {b : Nat} (h : i.natAbs ≤ b) : Wg (.int i) 0 1921 b := ⟨Nat.le_refl _, Nat.le_refl _, h⟩
theorem ints_wg {bs : List Int} {b m : Nat} (h : ∀ x ∈ bs, x.natAbs ≤ b) (hl : bs.length ≤ m) : Wg (intsD bs) 1 ((1921 + 4) * m + 4) b := by
  refine Wg.tup (Wgs.all (n := 0) (c := 1921) (fun d hd => ?_) (by rw [List.length_map]; exact hl))
  obtain ⟨i, hi, rfl⟩ := List.mem_map.mp hd
  exact int_wg (h i hi)
theorem po_wg {o : Option Int} {b : Nat} (h : ∀ l, o = some l → l.natAbs ≤ b) : Wg (po o) 0 1921 b := by
  cases o with
  | none => exact ⟨Nat.le_refl _, by show 5 ≤ 1921; decide, Nat.zero_le _⟩
  | some i => exact int_wg (h i rfl)
theorem pd_wg {d : Dd} {b : Nat} (h : d.In (b : Int)) : Wg (pd d) 1 5779 b := by
  have h0 := h.1
  have h1 := h.2.1
  refine Wg.tup (n := 0) (c := 5775) (Wgs.all (n := 0) (c := 1921) (m := 3) (ds := [.int d.add, po d.low, po d.high]) (fun x hx => ?_) (Nat.le_refl _))
  simp only [List.mem_cons, List.not_mem_nil, or_false] at hx
  rcases hx with rfl | rfl | rfl
  · exact int_wg (by omega)
  · exact po_wg fun l hl => by have := h.2.2.1 l hl; omega
  · exact po_wg fun l hl => by have := h.2.2.2 l hl; omega
theorem ak_wg {H : Hp} {nb : Nat} {x : Ak} (h : x.at_ H nb) (hn : nb ≤ 16) : Wg x.pd 2 9649 (10 ^ 80) := by
  obtain ⟨_, h2, h3, h4, h5⟩ := h
  refine (Wg.tup (n := 1) (Wgs.cons (c := 1921) (n := 1) ((int_wg (b := 10 ^ 80) (i := x.hand) (by omega)).mono (Nat.zero_le _) (Nat.le_refl _) (Nat.le_refl _)) (Wgs.cons (c := 1921) ((int_wg (b := 10 ^ 80) (i := (x.box : Int)) (by omega)).mono (Nat.zero_le _) (Nat.le_refl _) (Nat.le_refl _)) (Wgs.cons (pd_wg (b := 10 ^ 80) h2.2.1) (Wgs.nil (c := 0)))))).mono (Nat.le_refl _) (by decide) (Nat.le_refl _)
theorem asks_wg {H : Hp} {k : Addr} {as : List Ak} {nb : Nat} (h : AsksAt H k as nb) (hn : nb ≤ 16) : Wg (akD as) 3 ((9649 + 4) * 40 + 4) (10 ^ 80) := by
  refine Wg.tup (Wgs.all (n := 2) (c := 9649) (fun d hd => ?_) (by rw [List.length_map]; exact h.2.1))
  obtain ⟨x, hx, rfl⟩ := List.mem_map.mp hd
  exact ak_wg (h.2.2 x hx) hn
theorem ints_dn : ∀ bs : List Int, PyData.depthAll (bs.map PyData.int) = 0 ∧ nszs (bs.map PyData.int) = bs.length
  | [] => ⟨rfl, rfl⟩
  | i :: r => by
    obtain ⟨h1, h2⟩ := ints_dn r
    refine ⟨?_, ?_⟩
    · show max 0 (PyData.depthAll (r.map PyData.int)) = 0
      omega
    · show 1 + nszs (r.map PyData.int) = r.length + 1
      omega
theorem isBd_t {e : Int} {r : List Int} (h0 : 0 ≤ e) (h1 : e < 2) : isBd (byT (intsD (e :: r))) = false := by
  have e1 : byT (intsD (e :: r)) = .tuple (byT (.int e) :: byTs (r.map PyData.int)) := rfl
  have e2 : byT (.int e) = .bool (decide (e = 1)) := if_pos ⟨h0, h1⟩
  rw [e1, e2]
  simp only [isBd, List.all_cons, isWh, Bool.false_and, Bool.and_false]
theorem isAs_t {h0 : Int} {nb : Nat} {b d : PyData} {r : List PyData} (z0 : 0 ≤ h0) (z1 : h0 < 2) : isAs nb (byT (.tuple (.tuple [.int h0, b, d] :: r))) = false := by
  have e1 : byT (.tuple (.tuple [.int h0, b, d] :: r)) = .tuple (.tuple [byT (.int h0), byT b, byT d] :: byTs r) := rfl
  have e2 : byT (.int h0) = .bool (decide (h0 = 1)) := if_pos ⟨z0, z1⟩
  rw [e1, e2]
  simp only [isAs, isAk, List.all_cons, isWh, Bool.false_and]
def toldV : List V := [.bl true, .bl false, .bl true, .bl false, .str "board"]
def toldD : List PyData := [.bool true, .bool false, .bool true, .bool false, .str "board"]
theorem told_th {K : PySem.W.Frag} {p T : Addr} {H : Hp} (n1 : T ≠ p) (n2 : T ≠ sysModules) (h : H T = some (.lst (toldV ++ toldV))) : Th K p H (.ref T) (.list (toldD ++ toldD)) := by
  refine Th.lst (tr := [(.bl true, .bool true), (.bl false, .bool false), (.bl true, .bool true), (.bl false, .bool false), (.str "board", .str "board"), (.bl true, .bool true), (.bl false, .bool false), (.bl true, .bool true), (.bl false, .bool false), (.str "board", .str "board")]) n1 n2 h fun t ht => ?_
  simp only [List.mem_cons, List.not_mem_nil, or_false] at ht
  rcases ht with rfl | rfl | rfl | rfl | rfl | rfl | rfl | rfl | rfl | rfl <;> first | exact .bl _ | exact .str _
theorem told_sh : (PyData.list (toldD ++ toldD)).showable = true ∧ (PyData.list (toldD ++ toldD)).depth ≤ 60 ∧ (PyData.list (toldD ++ toldD)).shown.length ≤ sizeLine := ⟨rfl, by decide, shown_wz rfl (by decide +kernel)⟩
/-! ### things that are deeds, asks, trees, as what they are -/
theorem end_of {K : PySem.W.Frag} {p : Addr} {H : Hp} {v : V} {d : PyData} (h : Th K p H v d) (e : isEnd d = true) : ∃ o : Option Int, v = oV o ∧ d = po o := by
  cases d with
  | none => cases h; exact ⟨none, rfl, rfl⟩
  | int i => cases h; exact ⟨some i, rfl, rfl⟩
  | _ => cases e
theorem dd_of {K : PySem.W.Frag} {p : Addr} {H : Hp} {v : V} {d : PyData} (h : Th K p H v d) (e : isDd d = true) : ∃ (a : Addr) (dd : Dd), v = .ref a ∧ H a = some (.tup dd.vs) ∧ dd.Ok := by
  have ed : ∃ a l u, d = .tuple [a, l, u] := by
    cases d with
    | tuple ds =>
      match ds, e with
      | [a, l, u], _ => exact ⟨a, l, u, rfl⟩
    | _ => cases e
  obtain ⟨a, l, u, rfl⟩ := ed
  have e : (isWh a && (isEnd l && (isEnd u && okE a l u))) = true := e
  rw [Bool.and_eq_true, Bool.and_eq_true, Bool.and_eq_true] at e
  obtain ⟨e1, e2, e3, e4⟩ := e
  obtain ⟨b, tr, rfl, hds, hb, htr⟩ := h.tup_inv
  match tr, hds, hb, htr with
  | [x, y, z], hds, hb, htr =>
    have hx := htr x (by simp)
    have hy := htr y (by simp)
    have hz := htr z (by simp)
    injection hds with h1 hds
    injection hds with h2 hds
    injection hds with h3 _
    have h1 : a = x.2 := h1
    have h2 : l = y.2 := h2
    have h3 : u = z.2 := h3
    rw [← h1] at hx
    rw [← h2] at hy
    rw [← h3] at hz
    obtain ⟨i, rfl⟩ := isWh_inv e1
    obtain ⟨o1, ev1, rfl⟩ := end_of hy e2
    obtain ⟨o2, ev2, rfl⟩ := end_of hz e3
    refine ⟨b, ⟨i, o1, o2⟩, rfl, ?_, fun lo up el eh => ?_⟩
    · rw [hb]
      show some (HO.tup [x.1, y.1, z.1]) = some (HO.tup [.int i, oV o1, oV o2])
      rw [hx.int_inv, ev1, ev2]
    · have el : o1 = some lo := el
      have eh : o2 = some up := eh
      subst el eh
      have e4 : (decide (lo < up) || (decide (lo = up) && decide (i = 0))) = true := e4
      rw [Bool.or_eq_true, Bool.and_eq_true, decide_eq_true_iff, decide_eq_true_iff, decide_eq_true_iff] at e4
      exact e4
theorem ak_of {K : PySem.W.Frag} {p : Addr} {H : Hp} {v : V} {d : PyData} {n : Nat} (h : Th K p H v d) (e : isAk n d = true) : ∃ (a da : Addr) (x : Int) (b : Nat) (dd : Dd), v = .ref a ∧ H a = some (.tup [.int x, .int b, .ref da]) ∧ H da = some (.tup dd.vs) ∧ b < n := by
  have ed : ∃ a l u, d = .tuple [a, l, u] := by
    cases d with
    | tuple ds =>
      match ds, e with
      | [a, l, u], _ => exact ⟨a, l, u, rfl⟩
    | _ => cases e
  obtain ⟨a, l, u, rfl⟩ := ed
  have e : (isWh a && (isWh l && ((decide (0 ≤ wnD a) && decide (wnD a < 16)) && ((decide (0 ≤ wnD l) && decide (wnD l < (n : Int))) && isDd u)))) = true := e
  rw [Bool.and_eq_true, Bool.and_eq_true, Bool.and_eq_true, Bool.and_eq_true, Bool.and_eq_true, Bool.and_eq_true] at e
  obtain ⟨e1, e2, _, ⟨e3, e4⟩, e5⟩ := e
  obtain ⟨b, tr, rfl, hds, hb, htr⟩ := h.tup_inv
  match tr, hds, hb, htr with
  | [x, y, z], hds, hb, htr =>
    have hx := htr x (by simp)
    have hy := htr y (by simp)
    have hz := htr z (by simp)
    injection hds with h1 hds
    injection hds with h2 hds
    injection hds with h3 _
    have h1 : a = x.2 := h1
    have h2 : l = y.2 := h2
    have h3 : u = z.2 := h3
    rw [← h1] at hx
    rw [← h2] at hy
    rw [← h3] at hz
    obtain ⟨i, rfl⟩ := isWh_inv e1
    obtain ⟨j, rfl⟩ := isWh_inv e2
    have e3 : 0 ≤ j := of_decide_eq_true e3
    have e4 : j < (n : Int) := of_decide_eq_true e4
    obtain ⟨da, dd, ev, hd, _⟩ := dd_of hz e5
    refine ⟨b, da, i, j.toNat, dd, rfl, ?_, hd, by omega⟩
    rw [hb]
    show some (HO.tup [x.1, y.1, z.1]) = _
    rw [hx.int_inv, hy.int_inv, ev, Int.toNat_of_nonneg e3]
/-- a tree with its leaves below m, so high -/
theorem tr_of {K : PySem.W.Frag} {p : Addr} {H : Hp} {m : Nat} {v : V} {d : PyData} (h : Th K p H v d) : (lv d).all isWh = true → (∀ x ∈ lv d, 0 ≤ wv x ∧ wv x < (m : Int)) → ∃ t : Tr, TrAt H v t ∧ t.big < m ∧ t.cnt = (lv d).length := by
  induction h with
  | int i =>
    intro _ h
    have hi := h (.int i) List.mem_cons_self
    have h1 : 0 ≤ i := hi.1
    have h2 : i < (m : Int) := hi.2
    exact ⟨.leaf i.toNat, by show V.int i = V.int ((i.toNat : Nat) : Int); rw [Int.toNat_of_nonneg h1], by show i.toNat < m; omega, rfl⟩
  | @tup a tr h1 _ ih =>
    intro ha hr
    match tr, h1, ih, ha, hr with
    | [], _, _, ha, _ => cases ha
    | [_], _, _, ha, _ => cases ha
    | _ :: _ :: _ :: _, _, _, ha, _ => cases ha
    | [x, y], h1, ih, ha, hr =>
      have e : lv (.tuple [x.2, y.2]) = lv x.2 ++ lv y.2 := rfl
      have ha : (lv x.2 ++ lv y.2).all isWh = true := ha
      rw [List.all_append, Bool.and_eq_true] at ha
      obtain ⟨t1, a1, b1, c1⟩ := ih x (by simp) ha.1 fun z hz => hr z (by show z ∈ lv x.2 ++ lv y.2; exact List.mem_append_left _ hz)
      obtain ⟨t2, a2, b2, c2⟩ := ih y (by simp) ha.2 fun z hz => hr z (by show z ∈ lv x.2 ++ lv y.2; exact List.mem_append_right _ hz)
      refine ⟨.node t1 t2, ⟨a, x.1, y.1, rfl, h1, a1, a2⟩, by show max t1.big t2.big < m; omega, ?_⟩
      show t1.cnt + t2.cnt = (lv x.2 ++ lv y.2).length
      rw [List.length_append, c1, c2]
  | non => intro ha; cases ha
  | bl b => intro ha; cases ha
  | str x => intro ha; cases ha
  | lst => intro ha; cases ha
  | dct => intro ha; cases ha
theorem tr_is {K : PySem.W.Frag} {p : Addr} {H : Hp} {m : Nat} {v : V} {d : PyData} (h : Th K p H v d) (e : isT d m = true) : ∃ t : Tr, TrAt H v t ∧ t.big < m ∧ t.h ≤ m ∧ t.cnt = m := by
  have e : ((lv d).all isWh && decide ((lv d).map wv = (List.range m).map fun n : Nat => (n : Int))) = true := e
  rw [Bool.and_eq_true, decide_eq_true_iff] at e
  have hl : (lv d).length = m := by
    have := congrArg List.length e.2
    rw [List.length_map, List.length_map, List.length_range] at this
    exact this
  obtain ⟨t, a, b, c⟩ := tr_of (m := m) h e.1 fun x hx => by
    have hm : wv x ∈ (lv d).map wv := List.mem_map_of_mem hx
    rw [e.2] at hm
    obtain ⟨n, hn, e3⟩ := List.mem_map.mp hm
    have := List.mem_range.mp hn
    omega
  exact ⟨t, a, b, by have := t.h_cnt; omega, by omega⟩
/-- a row of one to forty deeds -/
def okDs : PyData → Bool
  | .tuple ds => decide (1 ≤ ds.length) && (decide (ds.length ≤ 40) && ds.all isDd)
  | _ => false
theorem okDs_no {d : PyData} (h : isTu d = false) : okDs d = false := by cases d <;> first | rfl | cases h
theorem okDs_tu {d : PyData} (h : okDs d = true) : ∃ ds, d = .tuple ds ∧ 1 ≤ ds.length ∧ ds.length ≤ 40 ∧ ds.all isDd = true := by
  cases d with
  | tuple ds =>
    have h : (decide (1 ≤ ds.length) && (decide (ds.length ≤ 40) && ds.all isDd)) = true := h
    rw [Bool.and_eq_true, Bool.and_eq_true, decide_eq_true_iff, decide_eq_true_iff] at h
    exact ⟨ds, rfl, h.1, h.2.1, h.2.2⟩
  | _ => cases h
/-- a row of deeds, however great -/
def DnAt (H : Hp) (k : Addr) (ps : List (Addr × Dd)) : Prop := H k = some (.tup (ps.map fun x => .ref x.1)) ∧ ∀ x ∈ ps, H x.1 = some (.tup x.2.vs)
theorem DnAt.same {H H' : Hp} {k : Addr} {ps : List (Addr × Dd)} (h : DnAt H k ps) (e : Same H H') : DnAt H' k ps := ⟨e _ _ h.1, fun x hx => e _ _ (h.2 x hx)⟩
theorem tr_list {α : Type} {P : V × PyData → α → Prop} : ∀ {tr : List (V × PyData)}, (∀ t ∈ tr, ∃ x, P t x) → ∃ xs : List α, Paired P tr xs
  | [], _ => ⟨[], .nil⟩
  | t :: r, h => by
    obtain ⟨x, hx⟩ := h t List.mem_cons_self
    obtain ⟨xs, hxs⟩ := tr_list (tr := r) fun y hy => h y (List.mem_cons_of_mem _ hy)
    exact ⟨x :: xs, .cons hx hxs⟩
theorem paired_fst {tr : List (V × PyData)} {ps : List (Addr × Dd)} {H : Hp} (h : Paired (fun (t : V × PyData) (x : Addr × Dd) => t.1 = .ref x.1 ∧ H x.1 = some (.tup x.2.vs)) tr ps) : tr.map (fun t => t.1) = ps.map (fun x => V.ref x.1) ∧ ∀ x ∈ ps, H x.1 = some (.tup x.2.vs) := by
  induction h with
  | nil => exact ⟨rfl, fun x hx => nomatch hx⟩
  | cons h1 _ ih =>
    obtain ⟨i1, i2⟩ := ih
    refine ⟨by rw [List.map_cons, List.map_cons, i1, h1.1], fun x hx => ?_⟩
    rcases List.mem_cons.mp hx with rfl | hx
    · exact h1.2
    · exact i2 x hx
theorem dn_of {K : PySem.W.Frag} {p : Addr} {H : Hp} {v : V} {ds : List PyData} (h : Th K p H v (.tuple ds)) (e : ds.all isDd = true) : ∃ (k : Addr) (ps : List (Addr × Dd)), v = .ref k ∧ DnAt H k ps ∧ ps.length = ds.length := by
  obtain ⟨k, tr, rfl, rfl, hk, htr⟩ := h.tup_inv
  obtain ⟨ps, hp⟩ := tr_list (tr := tr) (P := fun (t : V × PyData) (x : Addr × Dd) => t.1 = .ref x.1 ∧ H x.1 = some (.tup x.2.vs)) fun t ht => by
    obtain ⟨a, dd, ev, ho, _⟩ := dd_of (htr t ht) (List.all_eq_true.mp e _ (List.mem_map_of_mem ht))
    exact ⟨(a, dd), ev, ho⟩
  obtain ⟨e1, e2⟩ := paired_fst hp
  refine ⟨k, ps, rfl, ⟨by rw [hk, e1], e2⟩, ?_⟩
  have := congrArg List.length e1
  rw [List.length_map, List.length_map] at this
  rw [List.length_map]; exact this.symm
/-- some addresses that stand, the purse among them -/
structure SetOf (S : Addr → Prop) (p : Addr) (H : Hp) : Prop where
  p_ : S p
  fr : ∀ a, S a → H a ≠ none
theorem SetOf.but {S : Addr → Prop} {p : Addr} {H H' : Hp} (h : SetOf S p H) (b : But p H H') (hp : PotAt H' p) : SetOf S p H' := ⟨h.p_, fun a ha => by
  cases e : H a with
  | none => exact absurd e (h.fr a ha)
  | some o =>
    by_cases c : a = p
    · obtain ⟨_, _, h1, _⟩ := hp
      rw [c, h1]; exact fun z => by cases z
    · rw [b a o c e]; exact fun z => by cases z⟩
theorem SetOf.same {S : Addr → Prop} {p : Addr} {H H' : Hp} (h : SetOf S p H) (e : Same H H') : SetOf S p H' := ⟨h.p_, fun a ha => by
  cases q : H a with
  | none => exact absurd q (h.fr a ha)
  | some o => rw [e a o q]; exact fun z => by cases z⟩
theorem ThL.ty {K : PySem.W.Frag} {S : Addr → Prop} {H : Hp} {v : V} {d : PyData} (h : ThL K S H v d) : TyX K H v (.type (tyD d)) := by
  cases h with
  | non => exact .base .non
  | bl b => exact .base (.bl b)
  | int i => exact .base (.int i)
  | str x => exact .base (.str x)
  | tup h1 _ => exact .base (.tup h1)
  | lst _ _ h1 _ => exact .base (.lst h1)
  | dct h1 _ => exact .base (.dK h1)
theorem ThL.tup_inv {K : PySem.W.Frag} {S : Addr → Prop} {H : Hp} {v : V} {ds : List PyData} (h : ThL K S H v (.tuple ds)) : ∃ (a : Addr) (tr : List (V × PyData)), v = .ref a ∧ ds = (tr.map fun t => t.2) ∧ H a = some (.tup (tr.map fun t => t.1)) ∧ ∀ t ∈ tr, ThL K S H t.1 t.2 := by
  cases h with
  | @tup a tr h1 h2 => exact ⟨a, tr, rfl, rfl, h1, h2⟩
theorem ThL.int_inv {K : PySem.W.Frag} {S : Addr → Prop} {H : Hp} {v : V} {i : Int} (h : ThL K S H v (.int i)) : v = .int i := by cases h; rfl
/-- a thing without lists avoids any set -/
theorem Th.toL {K : PySem.W.Frag} {p : Addr} {S : Addr → Prop} {H : Hp} {v : V} {d : PyData} (h : Th K p H v d) : lf d = true → ThL K S H v d := by
  induction h with
  | non => exact fun _ => .non
  | bl b => exact fun _ => .bl b
  | int i => exact fun _ => .int i
  | str x => exact fun _ => .str x
  | @tup a tr h1 _ ih => exact fun e => .tup h1 fun t ht => ih t ht (lfs_mem (show lfs (tr.map fun t => t.2) = true from e) _ (List.mem_map_of_mem ht))
  | lst => exact fun e => by cases e
  | dct => exact fun e => by cases e
theorem Tr.lfd : ∀ t : Tr, lf t.d = true
  | .leaf n => rfl
  | .node l r => by
    show (lf l.d && (lf r.d && true)) = true
    rw [Tr.lfd l, Tr.lfd r] <;> rfl
/-- a thing without lists, with its weights -/
structure Gd (K : PySem.W.Frag) (p : Addr) (H : Hp) (v : V) (d : PyData) : Prop where
  th : Th K p H v d
  lf : lf d = true
  wg : Wg d 41 480000 (10 ^ 80)
theorem Gd.same {K : PySem.W.Frag} {p : Addr} {H H' : Hp} {v : V} {d : PyData} (h : Gd K p H v d) (e : Same H H') : Gd K p H' v d := ⟨h.th.same e, h.lf, h.wg⟩
/-- tuples stay -/
def TK (H H' : Hp) : Prop := ∀ a xs, H a = some (.tup xs) → H' a = some (.tup xs)
theorem TK.trans {A B C : Hp} (h : TK A B) (k : TK B C) : TK A C := fun a xs e => k _ _ (h _ _ e)
theorem TK.same {A B : Hp} (h : Same A B) : TK A B := fun a xs e => h _ _ e
theorem TK.but {p : Addr} {A B : Hp} (h : But p A B) (hp : PotAt A p) : TK A B := fun a xs e => h _ _ (ne_of e hp.choose_spec.choose_spec.1 (by intro z; cases z)) e
theorem TK.upd {A : Hp} {l : Addr} {ys : List V} {o : HO} (h : A l = some (.lst ys)) : TK A (L2.upd A l o) := fun a xs e => by rw [upd_ne (ne_of e h (by intro z; cases z))]; exact e
theorem th_tk {K : PySem.W.Frag} {p : Addr} {S : Addr → Prop} {H H' : Hp} {v : V} {d : PyData} (h : Th K p H v d) : lf d = true → TK H H' → ThL K S H' v d := by
  induction h with
  | non => exact fun _ _ => .non
  | bl b => exact fun _ _ => .bl b
  | int i => exact fun _ _ => .int i
  | str x => exact fun _ _ => .str x
  | @tup a tr h1 _ ih => exact fun e k => .tup (k _ _ h1) fun t ht => ih t ht (lfs_mem (show lfs (tr.map fun t => t.2) = true from e) _ (List.mem_map_of_mem ht)) k
  | lst => exact fun e _ => by cases e
  | dct => exact fun e _ => by cases e
theorem Gd.tk {K : PySem.W.Frag} {p : Addr} {H H' : Hp} {v : V} {d : PyData} (h : Gd K p H v d) (e : TK H H') : Gd K p H' v d := ⟨(th_tk (S := fun a => a = p) h.th h.lf e).th rfl, h.lf, h.wg⟩
structure It where
  T : Addr
  v : V
  d : PyData
  k : Nat
section
variable {P : Program} {w : World} {K : PySem.W.Frag} {mg : Str → Option Value} {base : Heap} (B : Bl K mg)
include B
/-! SPLIT -/
local macro_rules | `(tactic| walk_at "own") => `(tactic| fail)
local macro_rules | `(tactic| walk_at "sm") => `(tactic| first
  | with_reducible assumption
  | exact fun _ _ z => z
  | (apply Toy.same_bk; (with_reducible assumption); walk_at "sm")
  | solve_by_elim only [Toy.same_bk, *])
local macro_rules | `(tactic| walk_at "hp") => `(tactic| ((with_reducible refine (?_ : _ = some _)); first
  | with_reducible assumption
  | exact L2.upd_same
  | (apply Toy.hp_new; assumption; walk_at "hp")
  | (apply Toy.hp_at; (with_reducible assumption); walk_at "sm")))
local macro_rules | `(tactic| walk_at "sql") => `(tactic| first
  | with_reducible assumption
  | (apply L2.SqL.of; walk_at "hp")
  | (apply Toy.sql_at; (with_reducible assumption); walk_at "sm"))
local macro_rules | `(tactic| walk_at "sqt") => `(tactic| first
  | with_reducible assumption
  | (apply L2.SqT.of; walk_at "hp")
  | (apply Toy.sqt_at; (with_reducible assumption); walk_at "sm"))
local macro_rules | `(tactic| walk_at "ar") => `(tactic| first
  | with_reducible refine (?_ : (_ : Int) < _)
  | with_reducible refine (?_ : (_ : Int) ≤ _)
  | with_reducible refine (?_ : (_ : Nat) < _)
  | with_reducible refine (?_ : (_ : Nat) ≤ _)
  | with_reducible refine (?_ : (_ : Int) = _)
  | with_reducible refine (?_ : (_ : Nat) = _)
  | with_reducible refine (?_ : ¬ _)
  | with_reducible refine (?_ : _ ∧ _))
local macro_rules | `(tactic| walk_at "om") => `(tactic| (walk_at "ar"; omega))
local macro_rules | `(tactic| walk_at "num") => `(tactic| first
  | (walk_at "ar"; first
    | omega
    | (simp only [List.length_map, List.length_append, List.length_cons, List.length_nil, List.length_replicate, List.length_take, List.length_drop, List.length_range, List.length_set, List.length_reverse] <;> omega)
    | decide
    | (split <;> split <;> omega)
    | (split <;> omega))
  | decide)
local macro_rules | `(tactic| walk_at "side") => `(tactic| first
  | with_reducible rfl
  | walk_at "om"
  | with_reducible assumption
  | exact Toy.sz
  | (apply L2.SqL.of; walk_at "hp")
  | (apply L2.SqT.of; walk_at "hp")
  | (with_reducible apply Or.inl; walk_at "sql")
  | (with_reducible apply Or.inr; walk_at "sqt")
  | (with_reducible apply Exists.intro; walk_at "side")
  | walk_at "hp"
  | exact Eq.refl _
  | (apply Toy.lk1000; walk_at "num")
  | (apply Toy.lt1000; walk_at "num")
  | walk_at "num"
  | (apply Toy.lst_dp; apply L2.SqL.of; walk_at "hp")
  | (apply Toy.tupI_dp; apply L2.SqT.of; walk_at "hp")
  | exact Toy.ints_sh _
  | exact Toy.tupI_sh _
  | (apply L2.RgOk.of_le <;> walk_at "num")
  | (apply L2.atI_nat; assumption)
  | exact L2.Dp.lst (L2.SqL.of (by walk_at "hp")) L2.DpAll.nil
  | exact L2.Dp.tup (L2.SqT.of (by walk_at "hp")) L2.DpAll.nil
  | (apply Toy.ixn; walk_at "num")
  | exact Toy.tyL (by walk_at "hp")
  | walk_at "sql"
  | walk_at "sqt"
  | exact L2.ClsV.ty _
  | (apply L2.TyX.base; first | exact L2.TyOf.int _ | exact L2.TyOf.bl _ | exact L2.TyOf.non | exact L2.TyOf.str _ | (apply L2.TyOf.tup; walk_at "hp") | (apply L2.TyOf.lst; walk_at "hp"))
  | exact L2.kit_ty (r := true) (by decide +kernel)
  | exact L2.kit_ty (r := false) (by decide +kernel)
  | walk_at "own"
  | assumption
  | (walk_at "ar"; solve_by_elim only [Toy.hp_same, Toy.hp_new, L2.upd_same, *]))
local macro_rules | `(tactic| walk_at "go") => `(tactic| first
  | (apply And.intro; (focus (walk_at "side")); try walk_at "go")
  | (apply Exists.intro; rotate_left; (fail_if_success (with_reducible refine (?_ : Nat → _ → _))); (fail_if_success (with_reducible refine (?_ : L2.St → _ → _))); rotate_right; try walk_at "go")
  | (apply Or.inl; apply And.intro; (focus (walk_at "sql")); try walk_at "go")
  | (apply Or.inr; apply And.intro; (focus (walk_at "sqt")); try walk_at "go"))
/-! ENDM -/
/-- the stepper stops here -/
structure Kept (p : Prop) : Prop where
  ex : p
omit B in
theorem none_back {H H' : Hp} {a : Addr} (S : Same H H') (h : H' a = none) : H a = none := by
  cases e : H a with
  | none => rfl
  | some o =>
    rw [S _ _ e] at h
    cases h
omit B in
theorem But.fr {p E : Addr} {H H1 : Hp} {o : HO} (b : But p H H1) (hE : H E = none) : But p H (L2.upd H1 E o) := fun x u n h => by rw [upd_ne (ne_of_none h hE)]; exact b x u n h
omit B in
theorem but_fr {p E : Addr} {H H1 H2 : Hp} (b : But p H H1) (hE : H E = none) (c : But E H1 H2) : But p H H2 := fun x u n h => c _ _ (ne_of_none h hE) (b x u n h)
omit B in
theorem pot_keep {p : Addr} {H H' : Hp} (b : But p H H') (hp : PotAt H p) : ∀ t xs, H t = some (.tup xs) → H' t = some (.tup xs) := fun t xs e => by
  obtain ⟨_, _, h1, _⟩ := hp
  exact b _ _ (ne_of e h1 (by intro z; cases z)) e
omit B in
theorem PotAt.fr {H : Hp} {p E : Addr} {o : HO} (h : PotAt H p) (n : p ≠ E) : PotAt (L2.upd H E o) p := by
  obtain ⟨a, b, h1, h2⟩ := h
  exact ⟨a, b, by rw [upd_ne n]; exact h1, h2⟩
def spWhT (K : PySem.W.Frag) : Sp := fun vs H Q _ => ∃ (v : V) (d : PyData) (p : Addr), vs = [v] ∧ Th K p H v d ∧ Q (.bl (isWh d)) H
theorem k_is_whole (D : Df K mg "is_whole" s_is_whole ["thing"]) : Dn P w K mg base 1 "is_whole" ["thing"] (spWhT K) := by
  refine D.ok fun f fd F => okG0 F sc_is_whole (fun vs H Q E h => ?_) (fun cdv A outer s H vs Q E hr h => ⟨_, (pss_one (ps_ret (pe_and (pe_callB (kk (K := K) (F := rIsi) (P := CallR _ _) call_isi) (by rfl) B.isinstance_ (by decide +kernel) (pa_cons (pv 0) (pa_cons (pe_bltn (v := .ty "int") (u := .type "int") (by rfl) B.int_ (by decide +kernel) rfl) pa_nil))) (pe_one (pe_not (pe_callB (kk (K := K) (F := rIsi) (P := CallR _ _) call_isi) (by rfl) B.isinstance_ (by decide +kernel) (pa_cons (pv 0) (pa_cons (pe_bltn (v := .ty "bool") (u := .type "bool") (by rfl) B.bool_ (by decide +kernel) rfl) pa_nil)))))))), ?_⟩)
  · obtain ⟨v, d, p, rfl, _⟩ := h; rfl
  · obtain ⟨v, d, p, rfl, hd, q⟩ := h
    have ty := hd.ty
    have k1 := kit_in (K := K) d
    have k2 := kit_bl (K := K) d
    rw [isWh_eq] at q
    generalize isIn d = x at k1 q
    generalize isBl d = y at k2 q
    cases x
    all_goals
      try walk_at "go"
      first | exact q | exact ifF rfl q | exact ifT rfl q
def spWhT2 (K : PySem.W.Frag) : Sp := fun vs H Q _ => ∃ (v : V) (d : PyData) (p : Addr), vs = [v] ∧ Th K p H v d ∧ Q (.bl (isWh d)) H
theorem k__law_is_whole (D : Df K mg "_law_is_whole" s__law_is_whole ["_law_thing"]) : Dn P w K mg base 1 "_law_is_whole" ["_law_thing"] (spWhT2 K) := by
  refine D.ok fun f fd F => okG0 F sc__law_is_whole (fun vs H Q E h => ?_) (fun cdv A outer s H vs Q E hr h => ⟨_, (pss_one (ps_ret (pe_and (pe_callB (kk (K := K) (F := rIsi) (P := CallR _ _) call_isi) (by rfl) B.isinstance_ (by decide +kernel) (pa_cons (pv 0) (pa_cons (pe_bltn (v := .ty "int") (u := .type "int") (by rfl) B.int_ (by decide +kernel) rfl) pa_nil))) (pe_one (pe_not (pe_callB (kk (K := K) (F := rIsi) (P := CallR _ _) call_isi) (by rfl) B.isinstance_ (by decide +kernel) (pa_cons (pv 0) (pa_cons (pe_bltn (v := .ty "bool") (u := .type "bool") (by rfl) B.bool_ (by decide +kernel) rfl) pa_nil)))))))), ?_⟩)
  · obtain ⟨v, d, p, rfl, _⟩ := h; rfl
  · obtain ⟨v, d, p, rfl, hd, q⟩ := h
    have ty := hd.ty
    have k1 := kit_in (K := K) d
    have k2 := kit_bl (K := K) d
    rw [isWh_eq] at q
    generalize isIn d = x at k1 q
    generalize isBl d = y at k2 q
    cases x
    all_goals
      try walk_at "go"
      first | exact q | exact ifF rfl q | exact ifT rfl q
def spRowT (K : PySem.W.Frag) : Sp := fun vs H Q _ => ∃ (v : V) (d : PyData) (p : Addr) (n : Nat), vs = [v, .int n] ∧ Th K p H v d ∧ Q (.bl (isN n d)) H
theorem k_is_row_of (D : Df K mg "is_row_of" s_is_row_of ["thing", "many"]) : Dn P w K mg base 1 "is_row_of" ["thing", "many"] (spRowT K) := by
  refine D.ok fun f fd F => okG0 F sc_is_row_of (fun vs H Q E h => ?_) (fun cdv A outer s H vs Q E hr h => ⟨_, (pss_one (ps_ret (pe_and (pe_callB (kk (K := K) (F := rIsi) (P := CallR _ _) call_isi) (by rfl) B.isinstance_ (by decide +kernel) (pa_cons (pv 0) (pa_cons (pe_bltn (v := .ty "tuple") (u := .type "tuple") (by rfl) B.tuple_ (by decide +kernel) rfl) pa_nil))) (pe_one (pe_cmpR op_eq (pe_callB (lenK (K := K)) (by rfl) B.len_ (by decide +kernel) (pa_cons (pv 0) pa_nil)) (pv 1) (nomark _)))))), ?_⟩)
  · obtain ⟨v, d, p, n, rfl, _⟩ := h; rfl
  · obtain ⟨v, d, p, n, rfl, hd, q⟩ := h
    have ty := hd.ty
    have k1 := kit_tu (K := K) d
    cases ed : isTu d with
    | false =>
      rw [ed] at k1
      rw [isN_no ed] at q
      try walk_at "go"
      first | exact q | exact ifF rfl q
    | true =>
      rw [ed] at k1
      obtain ⟨ds, rfl⟩ := isTu_inv ed
      obtain ⟨a, tr, rfl, rfl, ha, htr⟩ := hd.tup_inv
      have e1 : decide (V.int ((List.map (fun t : V × PyData => t.1) tr).length : Nat) = V.int n) = isN n (.tuple (tr.map fun t => t.2)) := by
        show _ = decide ((tr.map fun t => t.2).length = n)
        rw [len_map1, len_map2]
        by_cases c : tr.length = n
        · rw [decide_eq_true (by rw [c]), decide_eq_true c]
        · rw [decide_eq_false fun z => c (by injection z with z; omega), decide_eq_false c]
      rw [← e1] at q
      try walk_at "go"
      exact q
def spEndT (K : PySem.W.Frag) : Sp := fun vs H Q _ => ∃ (v : V) (d : PyData) (p : Addr), vs = [v] ∧ Th K p H v d ∧ Q (.bl (isEnd d)) H
theorem k_is_end (D : Df K mg "is_end" s_is_end ["thing"]) (D_is_whole : Dn P w K mg base 1 "is_whole" ["thing"] (spWhT K)) : Dn P w K mg base 2 "is_end" ["thing"] (spEndT K) := by
  refine D.ok fun f fd F => okG0 F sc_is_end (fun vs H Q E h => ?_) (fun cdv A outer s H vs Q E hr h => ⟨_, (pss_one (ps_ret (pe_or (pe_cmpR op_isN (pv 0) pe_non (nomark _)) (pe_one (pe_cD D_is_whole (hr.less (by decide)) rfl (pa_cons (pv 0) pa_nil)))))), ?_⟩)
  · obtain ⟨v, d, p, rfl, _⟩ := h; rfl
  · obtain ⟨v, d, p, rfl, hd, q⟩ := h
    try walk_at "go"
    rw [hd.no_dec]
    unfold isEnd at q
    cases e : isNo d with
    | true =>
      rw [e] at q
      refine ifT rfl ?_
      exact q
    | false =>
      rw [e, Bool.false_or] at q
      refine ifF rfl ?_
      try walk_at "go"
      exact q
def spDeedT (K : PySem.W.Frag) : Sp := fun vs H Q _ => ∃ (v : V) (d : PyData) (p : Addr), vs = [v] ∧ Th K p H v d ∧ Q (.bl (isDd d)) H
theorem k_is_deed (D : Df K mg "is_deed" s_is_deed ["thing"]) (D_is_whole : Dn P w K mg base 1 "is_whole" ["thing"] (spWhT K)) (D_is_row_of : Dn P w K mg base 1 "is_row_of" ["thing", "many"] (spRowT K)) (D_is_end : Dn P w K mg base 2 "is_end" ["thing"] (spEndT K)) : Dn P w K mg base 3 "is_deed" ["thing"] (spDeedT K) := by
  refine D.ok fun f fd F => okG0 F sc_is_deed (fun vs H Q E h => ?_) (fun cdv A outer s H vs Q E hr h => ⟨_, (pss_cons (ps_if (PW.pt (pw_or (pt_not (pt_val (pe_cD D_is_row_of (hr.less (by decide)) rfl (pa_cons (pv 0) (pa_cons pe_int pa_nil))))) (pw_or (pt_not (pt_val (pe_cD D_is_whole (hr.less (by decide)) rfl (pa_cons (pe_ix (kk (K := K) (F := rIxT) (P := IxR _) ix_tup) (pv 0) pe_int (fun _ _ => rfl)) pa_nil)))) (pw_or (pt_not (pt_val (pe_cD D_is_end (hr.less (by decide)) rfl (pa_cons (pe_ix (kk (K := K) (F := rIxT) (P := IxR _) ix_tup) (pv 0) pe_int (fun _ _ => rfl)) pa_nil)))) (pw_or1 (pt_not (pt_val (pe_cD D_is_end (hr.less (by decide)) rfl (pa_cons (pe_ix (kk (K := K) (F := rIxT) (P := IxR _) ix_tup) (pv 0) pe_int (fun _ _ => rfl)) pa_nil)))))))))
      (pss_one (ps_ret pe_bl))
      pss_nil)
    (pss_cons (ps_asg (pv 0) (kk (K := K) (F := fun K => gTup K 3 _) (P := PG _ _) (pg_tup rfl (pgs_cons (pg_name (i := 1) sc_is_deed.nd rfl (Or.inl rfl)) (pgs_cons (pg_name (i := 2) sc_is_deed.nd rfl (Or.inl rfl)) (pgs_cons (pg_name (i := 3) sc_is_deed.nd rfl (Or.inl rfl)) pgs_nil))))))
    (pss_cons (ps_if (PW.pt (pw_or (pt_cmpR op_isN (pv 2) pe_non (nomark _)) (pw_or1 (pt_cmpR op_isN (pv 3) pe_non (nomark _)))))
      (pss_one (ps_ret pe_bl))
      pss_nil)
    (pss_one (ps_ret (pe_or (pe_cmpR op_lt (pv 2) (pv 3) (nomark _)) (pe_one (pe_and (pe_cmpR op_eq (pv 2) (pv 3) (nomark _)) (pe_one (pe_cmpR op_eq (pv 1) pe_int (nomark _))))))))))), ?_⟩)
  · obtain ⟨v, d, p, rfl, _⟩ := h; rfl
  · obtain ⟨v, d, p, rfl, hd, q⟩ := h
    try walk_at "go"
    cases e0 : isN 3 d with
    | false =>
      rw [isDd_no e0] at q
      refine ifT rfl ?_
      try walk_at "go"
      exact q
    | true =>
      obtain ⟨ds, rfl, l3⟩ := isN_tu e0
      obtain ⟨a, tr, rfl, rfl, ha, htr⟩ := hd.tup_inv
      rw [len_map2] at l3
      obtain ⟨⟨xv, xd⟩, ⟨yv, yd⟩, ⟨zv, zd⟩, rfl⟩ : ∃ x y z, tr = [x, y, z] := by
        match tr, l3 with
        | [x, y, z], _ => exact ⟨x, y, z, rfl⟩
      have hx : Th K p H xv xd := htr _ List.mem_cons_self
      have hy : Th K p H yv yd := htr _ (List.mem_cons_of_mem _ List.mem_cons_self)
      have hz : Th K p H zv zd := htr _ (List.mem_cons_of_mem _ (List.mem_cons_of_mem _ List.mem_cons_self))
      have ha : H a = some (.tup [xv, yv, zv]) := ha
      have i0 : atI [xv, yv, zv] 0 = some xv := rfl
      have i1 : atI [xv, yv, zv] 1 = some yv := rfl
      have i2 : atI [xv, yv, zv] 2 = some zv := rfl
      replace q : Q (.bl (isWh xd && (isEnd yd && (isEnd zd && okE xd yd zd)))) H := q
      refine ifF rfl ?_
      try walk_at "go"
      cases e1 : isWh xd with
      | false =>
        rw [e1, Bool.false_and] at q
        refine ifT rfl ?_
        try walk_at "go"
        exact q
      | true =>
      rw [e1, Bool.true_and] at q
      refine ifF rfl ?_
      try walk_at "go"
      cases e2 : isEnd yd with
      | false =>
        rw [e2, Bool.false_and] at q
        refine ifT rfl ?_
        try walk_at "go"
        exact q
      | true =>
      rw [e2, Bool.true_and] at q
      refine ifF rfl ?_
      try walk_at "go"
      cases e3 : isEnd zd with
      | false =>
        rw [e3, Bool.false_and] at q
        refine ifT rfl ?_
        try walk_at "go"
        exact q
      | true =>
      rw [e3, Bool.true_and] at q
      refine ifF rfl ?_
      obtain ⟨i, rfl⟩ := isWh_inv e1
      cases hx.int_inv
      have eno : ∀ {v : V} {d : PyData}, Th K p H v d → isEnd d = true → (v = .non ∧ d = .none) ∨ ∃ j, v = .int j ∧ d = .int j := fun {v d} h e => by
        cases h with
        | non => exact .inl ⟨rfl, rfl⟩
        | int j => exact .inr ⟨j, rfl, rfl⟩
        | _ => cases e
      rcases eno hy e2 with ⟨rfl, rfl⟩ | ⟨l, rfl, rfl⟩
      · try walk_at "go"
        refine ifT rfl (ifT rfl ?_)
        try walk_at "go"
        exact q
      · rcases eno hz e3 with ⟨rfl, rfl⟩ | ⟨u, rfl, rfl⟩
        · try walk_at "go"
          refine ifT rfl ?_
          try walk_at "go"
          exact q
        · replace q : Q (.bl (decide (l < u) || (decide (l = u) && decide (i = 0)))) H := q
          try walk_at "go"
          refine ite2 (fun c1 => ?_) (fun c1 => ?_)
          · rw [c1, Bool.true_or] at q
            exact q
          · rw [Bool.eq_false_iff.mpr c1, Bool.false_or] at q
            try walk_at "go"
            by_cases c2 : l = u
            · rw [decide_eq_true c2, Bool.true_and] at q
              refine ifT (decide_eq_true (by rw [c2])) ?_
              try walk_at "go"
              have e4 : decide (V.int i = V.int 0) = decide (i = 0) := by
                by_cases c3 : i = 0
                · rw [decide_eq_true c3, c3, decide_eq_true rfl]
                · rw [decide_eq_false c3, decide_eq_false fun z => c3 (V.int.inj z)]
              rw [← e4] at q
              exact q
            · rw [decide_eq_false c2, Bool.false_and] at q
              refine ifF (decide_eq_false fun z => c2 (V.int.inj z)) ?_
              exact q
def spBdT (K : PySem.W.Frag) : Sp := fun vs H Q _ => ∃ (v : V) (d : PyData) (p : Addr), vs = [v] ∧ Th K p H v d ∧ ∀ H', Same H H' → Q (.bl (isBd d)) H'
theorem k_is_board (D : Df K mg "is_board" s_is_board ["thing"]) (D_is_whole : Dn P w K mg base 1 "is_whole" ["thing"] (spWhT K)) : Dn P w K mg base 2 "is_board" ["thing"] (spBdT K) := by
  refine D.ok fun f fd F => okG0 F sc_is_board (fun vs H Q E h => ?_) (fun cdv A outer s H vs Q E hr h => ⟨_, (pss_one (ps_ret (pe_and (pe_callB (kk (K := K) (F := rIsi) (P := CallR _ _) call_isi) (by rfl) B.isinstance_ (by decide +kernel) (pa_cons (pv 0) (pa_cons (pe_bltn (v := .ty "tuple") (u := .type "tuple") (by rfl) B.tuple_ (by decide +kernel) rfl) pa_nil))) (pe_and (pe_chain op_le op_le pe_int (pe_callB (lenK (K := K)) (by rfl) B.len_ (by decide +kernel) (pa_cons (pv 0) pa_nil)) (pe_glob (v := .int (16)) (u := .int (16) B.MOST_BOXES_.choose) (by rfl) B.MOST_BOXES_.choose_spec ⟨_, rfl⟩)) (pe_one (pe_callB (kk (K := K) (F := rAll) (P := CallR _ _) (cr_all rfl)) (by rfl) B.all_ (by decide +kernel) (pa_cons (pe_lc (own := [("value", 1)]) (g := gName 1) (tt := tYes) rfl sc_is_board.nd (kk (K := K) (F := fun K => iTup K _) (P := PI _ _ _) (pi_tup (pv 0))) (blkOk_by (own := [("value", 1)]) (N := ["thing", "value"]) (sc := defScope s_is_board) (by decide +kernel)) (fun _ _ _ _ _ => (pg_name (i := 1) sc_is_board.nd rfl (Or.inl rfl))) (fun _ _ _ _ _ => pts_nil) (fun _ _ _ _ _ => (pe_cD D_is_whole (hr.less (by decide)) rfl (pa_cons (pv 1) pa_nil)))) pa_nil))))))), ?_⟩)
  · obtain ⟨v, d, p, rfl, _⟩ := h; rfl
  · obtain ⟨v, d, p, rfl, hd, q⟩ := h
    have ty := hd.ty
    have k1 := kit_tu (K := K) d
    cases ed : isTu d with
    | false =>
      rw [ed] at k1
      rw [isBd_no ed] at q
      try walk_at "go"
      first | exact q _ (Same.refl _) | exact ifF rfl (q _ (Same.refl _))
    | true =>
      rw [ed] at k1
      obtain ⟨ds, rfl⟩ := isTu_inv ed
      obtain ⟨a, tr, rfl, rfl, ha, htr⟩ := hd.tup_inv
      have eb : isBd (.tuple (tr.map fun t => t.2)) = (decide (1 ≤ tr.length) && (decide (tr.length ≤ 16) && (tr.map fun t => t.2).all isWh)) := by
        show (decide (1 ≤ (tr.map fun t => t.2).length) && (decide ((tr.map fun t => t.2).length ≤ 16) && _)) = _
        rw [len_map2]
      rw [eb] at q
      try walk_at "go"
      refine ite2 (fun c1 => ?_) (fun c1 => ?_)
      · have c1' : 1 ≤ tr.length := by have := of_decide_eq_true c1; rw [len_map1] at this; omega
        rw [decide_eq_true c1', Bool.true_and] at q
        try walk_at "go"
        refine ite2 (fun c2 => ?_) (fun c2 => ?_)
        · have c2' : tr.length ≤ 16 := by have := of_decide_eq_true c2; rw [len_map1] at this; omega
          rw [decide_eq_true c2', Bool.true_and] at q
          try walk_at "go"
          intro D hD
          refine lc_tup (K := K) (a := a) (xs := tr.map fun t => t.1) (fun i H' => Kept (Same H H' ∧ H' D = some (.lst (((tr.take i).map fun t => isWh t.2).map V.bl)))) ⟨same_new hD _, upd_same⟩ (fun i H' _ h => SqT.of (h.ex.1 _ _ ha)) ?_ ?_
          · rintro i y H2 hi ⟨S2, hD2⟩
            rw [List.getElem?_map] at hi
            obtain ⟨t, ht, rfl⟩ := Option.map_eq_some_iff.mp hi
            have th2 := (htr t (List.mem_of_getElem? ht)).same S2
            have ln : (((tr.take i).map fun t => isWh t.2).map V.bl).length ≤ 100 := by rw [List.length_map, List.length_map, List.length_take]; omega
            try walk_at "go"
            exact ⟨⟨but_same hD S2 But.upd, by rw [upd_same, take_snocB isWh ht]⟩⟩
          · rintro H2 ⟨S2, hD2⟩
            try walk_at "go"
            rw [take_all]
            exact q _ S2
        · have c2' : ¬ tr.length ≤ 16 := fun z => c2 (decide_eq_true (by rw [len_map1]; omega))
          rw [decide_eq_false c2', Bool.false_and] at q
          exact q _ (Same.refl _)
      · have c1' : ¬ 1 ≤ tr.length := fun z => c1 (decide_eq_true (by rw [len_map1]; omega))
        rw [decide_eq_false c1', Bool.false_and] at q
        try walk_at "go"
        exact q _ (Same.refl _)
def spWBdT (K : PySem.W.Frag) (C : Addr) : Sp := fun vs H Q E => ∃ (v : V) (d : PyData) (p : Addr), vs = [v] ∧ Th K p H v d ∧ ∀ H', Same H H' → (isBd d = true → Q .non H') ∧ (isBd d = false → E (.ref C) none H')
theorem k_want_board (D : Df K mg "want_board" s_want_board ["board"]) (D_is_board : Dn P w K mg base 2 "is_board" ["thing"] (spBdT K)) : Dx P w K mg base 3 "want_board" ["board"] (spWBdT K (cAt mg "NoBoard")) := by
  refine D.okX fun f fd F => okGX F sc_want_board (fun vs H Q E h => ?_) (fun cdv A outer s H vs Q E hr h => ⟨_, (pss_one (ps_if (pt_not (pt_val (pe_cD D_is_board (hr.less (by decide)) rfl (pa_cons (pv 0) pa_nil))))
     (pss_one (ps_raise rfl (takes_of rfl rfl rfl rfl) (pmk_own PySem.F.excBase_ValueError B.NoBoard_.ex B.NoBoard_.mg_ B.NoBoard_.kp (raises_own B.NoBoard_.bs B.NoBoard_.tp) rfl)))
     pss_nil)), ?_⟩)
  · obtain ⟨v, d, p, rfl, _⟩ := h; rfl
  · obtain ⟨v, d, p, rfl, hd, q⟩ := h
    try walk_at "go"
    intro H1 S1
    cases e : isBd d with
    | true =>
      try walk_at "go"
      refine ifF rfl ?_
      try walk_at "go"
      exact (q _ S1).1 e
    | false =>
      try walk_at "go"
      refine ifT rfl ?_
      exact (q _ S1).2 e
def spAkT (K : PySem.W.Frag) : Sp := fun vs H Q _ => ∃ (b : Addr) (bv : List V) (v : V) (d : PyData) (p : Addr), vs = [.ref b, v] ∧ H b = some (.tup bv) ∧ bv.length ≤ 16 ∧ Th K p H v d ∧ Q (.bl (isAk bv.length d)) H
theorem k_is_ask (D : Df K mg "is_ask" s_is_ask ["board", "thing"]) (D_is_whole : Dn P w K mg base 1 "is_whole" ["thing"] (spWhT K)) (D_is_deed : Dn P w K mg base 3 "is_deed" ["thing"] (spDeedT K)) : Dn P w K mg base 4 "is_ask" ["board", "thing"] (spAkT K) := by
  refine D.ok fun f fd F => okG0 F sc_is_ask (fun vs H Q E h => ?_) (fun cdv A outer s H vs Q E hr h => ⟨_, (pss_cons (ps_if (PW.pt (pw_or (pt_not (pt_val (pe_callB (kk (K := K) (F := rIsi) (P := CallR _ _) call_isi) (by rfl) B.isinstance_ (by decide +kernel) (pa_cons (pv 1) (pa_cons (pe_bltn (v := .ty "tuple") (u := .type "tuple") (by rfl) B.tuple_ (by decide +kernel) rfl) pa_nil))))) (pw_or (pt_cmpR op_ne (pe_callB (lenK (K := K)) (by rfl) B.len_ (by decide +kernel) (pa_cons (pv 1) pa_nil)) pe_int (nomark _)) (pw_or (pt_not (pt_val (pe_cD D_is_whole (hr.less (by decide)) rfl (pa_cons (pe_ix (kk (K := K) (F := rIxT) (P := IxR _) ix_tup) (pv 1) pe_int (fun _ _ => rfl)) pa_nil)))) (pw_or1 (pt_not (pt_val (pe_cD D_is_whole (hr.less (by decide)) rfl (pa_cons (pe_ix (kk (K := K) (F := rIxT) (P := IxR _) ix_tup) (pv 1) pe_int (fun _ _ => rfl)) pa_nil)))))))))
      (pss_one (ps_ret pe_bl))
      pss_nil)
    (pss_one (ps_ret (pe_and (pe_chain op_le op_lt pe_int (pe_ix (kk (K := K) (F := rIxT) (P := IxR _) ix_tup) (pv 1) pe_int (fun _ _ => rfl)) (pe_glob (v := .int (16)) (u := .int (16) B.HANDS_.choose) (by rfl) B.HANDS_.choose_spec ⟨_, rfl⟩)) (pe_and (pe_chain op_le op_lt pe_int (pe_ix (kk (K := K) (F := rIxT) (P := IxR _) ix_tup) (pv 1) pe_int (fun _ _ => rfl)) (pe_callB (lenK (K := K)) (by rfl) B.len_ (by decide +kernel) (pa_cons (pv 0) pa_nil))) (pe_one (pe_cD D_is_deed (hr.less (by decide)) rfl (pa_cons (pe_ix (kk (K := K) (F := rIxT) (P := IxR _) ix_tup) (pv 1) pe_int (fun _ _ => rfl)) pa_nil)))))))), ?_⟩)
  · obtain ⟨b, bv, v, d, p, rfl, _⟩ := h; rfl
  · obtain ⟨b, bv, v, d, p, rfl, hb, h16, hd, q⟩ := h
    have ty := hd.ty
    have k1 := kit_tu (K := K) d
    cases e0 : isN 3 d with
    | false =>
      rw [isAk_no e0] at q
      cases ed : isTu d with
      | false =>
        rw [ed] at k1
        try walk_at "go"
        refine ifT rfl ?_
        try walk_at "go"
        exact q
      | true =>
        rw [ed] at k1
        obtain ⟨ds, rfl⟩ := isTu_inv ed
        obtain ⟨a, tr, rfl, rfl, ha, htr⟩ := hd.tup_inv
        have l3 : (tr.map fun t => t.1).length ≠ 3 := fun z => by
          have e0 : decide ((tr.map fun t => t.2).length = 3) = false := e0
          rw [len_map2] at e0
          rw [len_map1] at z
          exact of_decide_eq_false e0 z
        try walk_at "go"
        refine ifT (dec_ne' l3) ?_
        try walk_at "go"
        exact q
    | true =>
      obtain ⟨ds, rfl, l3⟩ := isN_tu e0
      obtain ⟨a, tr, rfl, rfl, ha, htr⟩ := hd.tup_inv
      rw [len_map2] at l3
      obtain ⟨⟨xv, xd⟩, ⟨yv, yd⟩, ⟨zv, zd⟩, rfl⟩ : ∃ x y z, tr = [x, y, z] := by
        match tr, l3 with
        | [x, y, z], _ => exact ⟨x, y, z, rfl⟩
      have hx : Th K p H xv xd := htr _ List.mem_cons_self
      have hy : Th K p H yv yd := htr _ (List.mem_cons_of_mem _ List.mem_cons_self)
      have hz : Th K p H zv zd := htr _ (List.mem_cons_of_mem _ (List.mem_cons_of_mem _ List.mem_cons_self))
      have ha : H a = some (.tup [xv, yv, zv]) := ha
      have i0 : atI [xv, yv, zv] 0 = some xv := rfl
      have i1 : atI [xv, yv, zv] 1 = some yv := rfl
      have i2 : atI [xv, yv, zv] 2 = some zv := rfl
      replace q : Q (.bl (isWh xd && (isWh yd && ((decide (0 ≤ wnD xd) && decide (wnD xd < 16)) && ((decide (0 ≤ wnD yd) && decide (wnD yd < (bv.length : Int))) && isDd zd))))) H := q
      have k1 : PySem.W.kitOne K (.type (tyD (.tuple [xd, yd, zd]))) (.type "tuple") = some true := k1
      have ty : TyX K H (.ref a) (.type (tyD (.tuple [xd, yd, zd]))) := ty
      try walk_at "go"
      cases e1 : isWh xd with
      | false =>
        rw [e1, Bool.false_and] at q
        refine ifT rfl ?_
        try walk_at "go"
        exact q
      | true =>
      rw [e1, Bool.true_and] at q
      refine ifF rfl ?_
      try walk_at "go"
      cases e2 : isWh yd with
      | false =>
        rw [e2, Bool.false_and] at q
        refine ifT rfl ?_
        try walk_at "go"
        exact q
      | true =>
      rw [e2, Bool.true_and] at q
      refine ifF rfl ?_
      obtain ⟨i, rfl⟩ := isWh_inv e1
      obtain ⟨j, rfl⟩ := isWh_inv e2
      cases hx.int_inv
      cases hy.int_inv
      replace q : Q (.bl ((decide (0 ≤ i) && decide (i < 16)) && ((decide (0 ≤ j) && decide (j < (bv.length : Int))) && isDd zd))) H := q
      try walk_at "go"
      refine ite2 (fun c1 => ?_) (fun c1 => ?_)
      · rw [c1, Bool.true_and] at q
        try walk_at "go"
        refine ite2 (fun c2 => ?_) (fun c2 => ?_)
        · rw [c2, Bool.true_and] at q
          try walk_at "go"
          refine ite2 (fun c3 => ?_) (fun c3 => ?_)
          · rw [c3, Bool.true_and] at q
            try walk_at "go"
            refine ite2 (fun c4 => ?_) (fun c4 => ?_)
            · rw [c4, Bool.true_and] at q
              try walk_at "go"
              exact q
            · rw [Bool.eq_false_iff.mpr c4, Bool.false_and] at q
              exact q
          · rw [Bool.eq_false_iff.mpr c3, Bool.false_and] at q
            try walk_at "go"
            exact q
        · rw [Bool.eq_false_iff.mpr c2, Bool.false_and] at q
          exact q
      · rw [Bool.eq_false_iff.mpr c1, Bool.false_and] at q
        try walk_at "go"
        exact q
def spAsT (K : PySem.W.Frag) (C : Addr) : Sp := fun vs H Q E => ∃ (bv0 v : V) (bd d : PyData) (p p2 : Addr), vs = [bv0, v] ∧ Th K p H bv0 bd ∧ Th K p2 H v d ∧ nsz d ≤ 2000000 ∧ (∀ n ds, bd = .tuple ds → ds.length = n → isBd bd = true → ∀ H', Same H H' → Q (.bl (isAs n d)) H') ∧ (isBd bd = false → ∀ H', Same H H' → E (.ref C) none H')
theorem k_are_asks (D : Df K mg "are_asks" s_are_asks ["board", "thing"]) (D_want_board : Dx P w K mg base 3 "want_board" ["board"] (spWBdT K (cAt mg "NoBoard"))) (D_is_ask : Dn P w K mg base 4 "is_ask" ["board", "thing"] (spAkT K)) : Dx P w K mg base 5 "are_asks" ["board", "thing"] (spAsT K (cAt mg "NoBoard")) := by
  refine D.okX fun f fd F => okGX F sc_are_asks (fun vs H Q E h => ?_) (fun cdv A outer s H vs Q E hr h => ⟨_, (pss_cons (ps_expr (pe_cW D_want_board (hr.less (by decide)) (takes_of rfl rfl rfl rfl) rfl (pa_cons (pv 0) pa_nil)))
    (pss_one (ps_ret (pe_and (pe_callB (kk (K := K) (F := rIsi) (P := CallR _ _) call_isi) (by rfl) B.isinstance_ (by decide +kernel) (pa_cons (pv 1) (pa_cons (pe_bltn (v := .ty "tuple") (u := .type "tuple") (by rfl) B.tuple_ (by decide +kernel) rfl) pa_nil))) (pe_one (pe_callB (kk (K := K) (F := rAll) (P := CallR _ _) (cr_all rfl)) (by rfl) B.all_ (by decide +kernel) (pa_cons (pe_lc (own := [("one", 2)]) (g := gName 2) (tt := tYes) rfl sc_are_asks.nd (kk (K := K) (F := fun K => iTup K _) (P := PI _ _ _) (pi_tup (pv 1))) (blkOk_by (own := [("one", 2)]) (N := ["board", "thing", "one"]) (sc := defScope s_are_asks) (by decide +kernel)) (fun _ _ _ _ _ => (pg_name (i := 2) sc_are_asks.nd rfl (Or.inl rfl))) (fun _ _ _ _ _ => pts_nil) (fun _ _ _ _ _ => (pe_cD D_is_ask (hr.less (by decide)) rfl (pa_cons (pv 0) (pa_cons (pv 2) pa_nil))))) pa_nil))))))), ?_⟩)
  · obtain ⟨bv0, v, bd, d, p, p2, rfl, _⟩ := h; rfl
  · obtain ⟨bv0, v, bd, d, p, p2, rfl, hb, hd, hz, q1, q2⟩ := h
    try walk_at "go"
    intro H1 S1
    refine ⟨fun eb => ?_, fun eb => q2 eb H1 S1⟩
    obtain ⟨bs, rfl, l1, l2, l3⟩ := isBd_tu eb
    obtain ⟨b, br, rfl, rfl, hb', hbr⟩ := hb.tup_inv
    have q := q1 _ _ rfl rfl eb
    clear q1 q2
    rw [len_map2] at q l1 l2
    have hb1 := S1 _ _ hb'
    have l16 : (br.map fun t => t.1).length ≤ 16 := by rw [len_map1]; exact l2
    have hd1 := hd.same S1
    have ty := hd1.ty
    have k1 := kit_tu (K := K) d
    cases ed : isTu d with
    | false =>
      rw [ed] at k1
      rw [isAs_no ed] at q
      try walk_at "go"
      first | exact q _ S1 | exact ifF rfl (q _ S1)
    | true =>
      rw [ed] at k1
      obtain ⟨ds, rfl⟩ := isTu_inv ed
      obtain ⟨a, tr, rfl, rfl, ha, htr⟩ := hd1.tup_inv
      try walk_at "go"
      intro D hD
      refine lc_tup (K := K) (a := a) (xs := tr.map fun t => t.1) (fun i H' => Kept (Same H1 H' ∧ H' D = some (.lst (((tr.take i).map fun t => isAk br.length t.2).map V.bl)))) ⟨same_new hD _, upd_same⟩ (fun i H' _ h => SqT.of (h.ex.1 _ _ ha)) ?_ ?_
      · rintro i y H2 hi ⟨S2, hD2⟩
        rw [List.getElem?_map] at hi
        obtain ⟨t, ht, rfl⟩ := Option.map_eq_some_iff.mp hi
        have th2 := (htr t (List.mem_of_getElem? ht)).same S2
        have hb2 := S2 _ _ hb1
        have ln : (((tr.take i).map fun t => isAk br.length t.2).map V.bl).length ≤ 2000000 := by
          have h1 := nszs_len (tr.map fun t => t.2)
          have h2 : 1 + nszs (tr.map fun t => t.2) ≤ 2000000 := hz
          rw [len_map2] at h1
          rw [List.length_map, List.length_map, List.length_take]
          omega
        have slz : 3000000 ≤ sizeLine := by decide
        try walk_at "go"
        rw [len_map1 (tr := br)]
        exact ⟨⟨but_same hD S2 But.upd, by rw [upd_same, take_snocB (isAk br.length) ht]⟩⟩
      · rintro H2 ⟨S2, hD2⟩
        try walk_at "go"
        rw [take_all]
        exact q _ (S1.trans S2)
def spInT (K : PySem.W.Frag) : Sp := fun vs H Q _ => ∃ (v : V) (d : PyData) (p : Addr) (a b : Int), vs = [v, .int a, .int b] ∧ Th K p H v d ∧ Q (.bl (isR d a b)) H
theorem k_is_within (D : Df K mg "is_within" s_is_within ["thing", "least", "most"]) (D_is_whole : Dn P w K mg base 1 "is_whole" ["thing"] (spWhT K)) : Dn P w K mg base 2 "is_within" ["thing", "least", "most"] (spInT K) := by
  refine D.ok fun f fd F => okG0 F sc_is_within (fun vs H Q E h => ?_) (fun cdv A outer s H vs Q E hr h => ⟨_, (pss_one (ps_ret (pe_and (pe_cD D_is_whole (hr.less (by decide)) rfl (pa_cons (pv 0) pa_nil)) (pe_one (pe_chain op_le op_le (pv 1) (pv 0) (pv 2)))))), ?_⟩)
  · obtain ⟨v, d, p, a, b, rfl, _⟩ := h; rfl
  · obtain ⟨v, d, p, a, b, rfl, hd, q⟩ := h
    try walk_at "go"
    cases e : isWh d with
    | false =>
      rw [isR_no e] at q
      try walk_at "go"
      exact q
    | true =>
      obtain ⟨i, rfl⟩ := isWh_inv e
      cases hd.int_inv
      replace q : Q (.bl (decide (a ≤ i) && decide (i ≤ b))) H := q
      try walk_at "go"
      refine ite2 (fun c => ?_) (fun c => ?_)
      · rw [c, Bool.true_and] at q
        try walk_at "go"
        exact q
      · rw [Bool.eq_false_iff.mpr c, Bool.false_and] at q
        try walk_at "go"
        exact q
/-! SPLIT -/
def spWW24 (K : PySem.W.Frag) (C : Addr) : Sp := fun vs H Q E => ∃ (v : V) (d : PyData) (p : Addr), vs = [v] ∧ Th K p H v d ∧ (isWh d = true → Q .non H) ∧ (isWh d = false → E (.ref C) none H)
theorem k_want_whole (D : Df K mg "want_whole" s_want_whole ["thing"]) (D_is_whole : Dn P w K mg base 1 "is_whole" ["thing"] (spWhT K)) : Dx P w K mg base 2 "want_whole" ["thing"] (spWW24 K (cAt mg "NoNumber")) := by
  refine D.okX fun f fd F => okGX F sc_want_whole (fun vs H Q E h => ?_) (fun cdv A outer s H vs Q E hr h => ⟨_, (pss_one (ps_if (pt_not (pt_val (pe_cD D_is_whole (hr.less (by decide)) rfl (pa_cons (pv 0) pa_nil))))
     (pss_one (ps_raise rfl (takes_of rfl rfl rfl rfl) (pmk_own PySem.F.excBase_ValueError B.NoNumber_.ex B.NoNumber_.mg_ B.NoNumber_.kp (raises_own B.NoNumber_.bs B.NoNumber_.tp) rfl)))
     pss_nil)), ?_⟩)
  · obtain ⟨v, d, p, rfl, _⟩ := h; rfl
  · obtain ⟨v, d, p, rfl, hd, q1, q2⟩ := h
    try walk_at "go"
    cases e : isWh d with
    | true =>
      refine ifF rfl ?_
      try walk_at "go"
      exact q1 e
    | false =>
      refine ifT rfl ?_
      exact q2 e
def spWI24 (K : PySem.W.Frag) (C : Addr) : Sp := fun vs H Q E => ∃ (v : V) (d : PyData) (p : Addr) (a b : Int), vs = [v, .int a, .int b] ∧ Th K p H v d ∧ (isR d a b = true → Q .non H) ∧ (isR d a b = false → E (.ref C) none H)
theorem k_want_within (D : Df K mg "want_within" s_want_within ["thing", "least", "most"]) (D_is_within : Dn P w K mg base 2 "is_within" ["thing", "least", "most"] (spInT K)) : Dx P w K mg base 3 "want_within" ["thing", "least", "most"] (spWI24 K (cAt mg "NoNumber")) := by
  refine D.okX fun f fd F => okGX F sc_want_within (fun vs H Q E h => ?_) (fun cdv A outer s H vs Q E hr h => ⟨_, (pss_one (ps_if (pt_not (pt_val (pe_cD D_is_within (hr.less (by decide)) rfl (pa_cons (pv 0) (pa_cons (pv 1) (pa_cons (pv 2) pa_nil))))))
     (pss_one (ps_raise rfl (takes_of rfl rfl rfl rfl) (pmk_own PySem.F.excBase_ValueError B.NoNumber_.ex B.NoNumber_.mg_ B.NoNumber_.kp (raises_own B.NoNumber_.bs B.NoNumber_.tp) rfl)))
     pss_nil)), ?_⟩)
  · obtain ⟨v, d, p, a, b, rfl, _⟩ := h; rfl
  · obtain ⟨v, d, p, a, b, rfl, hd, q1, q2⟩ := h
    try walk_at "go"
    cases e : isR d a b with
    | true =>
      refine ifF rfl ?_
      try walk_at "go"
      exact q1 e
    | false =>
      refine ifT rfl ?_
      exact q2 e
def spWM24 (K : PySem.W.Frag) (C : Addr) : Sp := fun vs H Q E => ∃ (v : V) (d : PyData) (p : Addr), vs = [v] ∧ Th K p H v d ∧ (isR d 1 40 = true → Q .non H) ∧ (isR d 1 40 = false → E (.ref C) none H)
theorem k_want_many (D : Df K mg "want_many" s_want_many ["many"]) (D_want_within : Dx P w K mg base 3 "want_within" ["thing", "least", "most"] (spWI24 K (cAt mg "NoNumber"))) : Dx P w K mg base 4 "want_many" ["many"] (spWM24 K (cAt mg "NoNumber")) := by
  refine D.okX fun f fd F => okGX F sc_want_many (fun vs H Q E h => ?_) (fun cdv A outer s H vs Q E hr h => ⟨_, (pss_one (ps_expr (pe_cW D_want_within (hr.less (by decide)) (takes_of rfl rfl rfl rfl) rfl (pa_cons (pv 0) (pa_cons pe_int (pa_cons (pe_glob (v := .int (40)) (u := .int (40) B.MOST_DEEDS_.choose) (by rfl) B.MOST_DEEDS_.choose_spec ⟨_, rfl⟩) pa_nil)))))), ?_⟩)
  · obtain ⟨v, d, p, rfl, _⟩ := h; rfl
  · obtain ⟨v, d, p, rfl, hd, q1, q2⟩ := h
    try walk_at "go"
    exact fun e => q2 e
def spIsT24 (K : PySem.W.Frag) (C : Addr) : Sp := fun vs H Q E => ∃ (v w : V) (d m0 : PyData) (p : Addr), vs = [v, w] ∧ Th K p H v d ∧ Th K p H w m0 ∧ nsz d ≤ 10000000 ∧ (∀ m : Nat, m0 = .int m → 1 ≤ m → m ≤ 40 → ∀ H', Same H H' → Q (.bl (isT d m)) H') ∧ (isR m0 1 40 = false → ∀ H', Same H H' → E (.ref C) none H')
def ItT (K : PySem.W.Frag) (p : Addr) (H0 : Hp) (v : V) (d : PyData) (m : Nat) (L : Addr) (k : Nat) (σ : L2.St) (H : Hp) : Prop := ∃ (ts : List (V × PyData)) (c : Nat) (w4 : Option V), σ = [some v, some (.int m), some (.ref L), some (.int c), w4] ∧ Same H0 H ∧ H L = some (.lst (ts.reverse.map fun t => t.1)) ∧ (∀ t ∈ ts, Th K p H0 t.1 t.2) ∧ lv d = ris c ++ (ts.map fun t => t.2).flatMap lv ∧ k = szV ts ∧ szV ts ≤ nsz d
theorem k_is_tree (D : Df K mg "is_tree" s_is_tree ["thing", "many"]) (D_want_many : Dx P w K mg base 4 "want_many" ["many"] (spWM24 K (cAt mg "NoNumber"))) (D_is_whole : Dn P w K mg base 1 "is_whole" ["thing"] (spWhT K)) : Dx P w K mg base 5 "is_tree" ["thing", "many"] (spIsT24 K (cAt mg "NoNumber")) := by
  refine D.okX fun f fd F => okGX F sc_is_tree (fun vs H Q E h => ?_) (fun cdv A outer s H vs Q E hr h => ⟨_, (pss_cons (ps_expr (pe_cW D_want_many (hr.less (by decide)) (takes_of rfl rfl rfl rfl) rfl (pa_cons (pv 1) pa_nil)))
    (pss_cons (ps_set (i := 2) sc_is_tree.nd rfl (Or.inl rfl) (pe_lst (pa_cons (pv 0) pa_nil)))
    (pss_cons (ps_set (i := 3) sc_is_tree.nd rfl (Or.inl rfl) pe_int)
    (pss_cons (ps_while (passes_of rfl) (pt_cmpR (kk (K := K) (F := rNeNil) (P := OpR _ _) (op_neNil hr.units)) (pv 2) (pe_lst pa_nil) (nomark _))
      (pss_cons (ps_set (i := 4) sc_is_tree.nd rfl (Or.inl rfl) (kk (K := K) (F := fun K => tBM0 K "list" _ _) (P := PE _ _) (pe_bm0 PySem.F.plainAttrs_list PySem.F.slot_list_pop PySem.F.type_list_pop mt_pop (pv 2))))
      (pss_one (ps_if (pt_val (pe_callB (kk (K := K) (F := rIsi) (P := CallR _ _) call_isi) (by rfl) B.isinstance_ (by decide +kernel) (pa_cons (pv 4) (pa_cons (pe_bltn (v := .ty "tuple") (u := .type "tuple") (by rfl) B.tuple_ (by decide +kernel) rfl) pa_nil))))
       (pss_cons (ps_if (pt_cmpR op_ne (pe_callB (lenK (K := K)) (by rfl) B.len_ (by decide +kernel) (pa_cons (pv 4) pa_nil)) pe_int (nomark _))
         (pss_one (ps_ret pe_bl))
         pss_nil)
       (pss_one (ps_expr (kk (K := K) (F := fun K => tBM K "list" _ _ _) (P := PE _ _) (pe_bm PySem.F.plainAttrs_list PySem.F.slot_list_extend PySem.F.type_list_extend mt_extend (pv 2) (pa_cons (pe_lst (pa_cons (pe_ix (kk (K := K) (F := rIxT) (P := IxR _) ix_tup) (pv 4) pe_int (fun _ _ => rfl)) (pa_cons (pe_ix (kk (K := K) (F := rIxT) (P := IxR _) ix_tup) (pv 4) pe_int (fun _ _ => rfl)) pa_nil))) pa_nil))))))
       (pss_one (ps_if (PW.pt (pw_or (pt_not (pt_val (pe_cD D_is_whole (hr.less (by decide)) rfl (pa_cons (pv 4) pa_nil)))) (pw_or1 (pt_cmpR op_ne (pv 4) (pv 3) (nomark _)))))
        (pss_one (ps_ret pe_bl))
        (pss_one (ps_set (i := 3) sc_is_tree.nd rfl (Or.inl rfl) (pe_op op_add (pv 3) pe_int)))))))))
    (pss_one (ps_ret (pe_cmpR op_eq (pv 3) (pv 1) (nomark _)))))))), ?_⟩)
  · obtain ⟨v, w, d, m0, p, rfl, _⟩ := h; rfl
  · obtain ⟨v, w, d, m0, p, rfl, hd, hm0, hsz, q1, q2⟩ := h
    try walk_at "go"
    refine ⟨fun e0 => ?_, fun e0 => q2 e0 H (Same.refl _)⟩
    obtain ⟨i, rfl, i1, i2⟩ := isR_inv e0
    obtain ⟨m, rfl⟩ : ∃ m : Nat, i = (m : Int) := ⟨i.toNat, by omega⟩
    have m1 : 1 ≤ m := by omega
    have m40 : m ≤ 40 := by omega
    cases hm0.int_inv
    have q := q1 m rfl m1 m40
    try walk_at "go"
    intro L hL
    generalize eH1 : upd _ L _ = H1
    have SH1 := newS eH1 hL
    have oL := newO eH1
    try walk_at "go"
    refine ⟨ItT K p H v d m L, ⟨_, [(v, d)], 0, _, rfl, SH1, oL, fun t ht => by cases List.mem_singleton.mp ht; exact hd, by show lv d = [] ++ (lv d ++ []); rw [List.nil_append, List.append_nil], rfl, by show nsz d + 0 ≤ nsz d; omega⟩, ?_⟩
    rintro k σ H2 ⟨ts, c, w4, rfl, S2, hL2, hts, hlv, rfl, hle⟩
    try walk_at "go"
    intro Z hZ
    generalize eH3 : upd _ Z _ = H3
    have SH3 := newS eH3 hZ
    have oZ := newO eH3
    have hL3 := SH3 _ _ hL2
    try walk_at "go"
    cases ts with
    | nil =>
      try walk_at "go"
      have e1 : decide (V.int ↑c = V.int ↑m) = isT d m := by
        rw [isT_end (c := c) (by rw [hlv]; exact List.append_nil _)]
        by_cases e : c = m
        · subst e
          rw [decide_eq_true rfl, decide_eq_true rfl]
        · rw [decide_eq_false e, decide_eq_false fun z => e (by injection z with z; omega)]
      show Q (V.bl (decide (V.int ↑c = V.int ↑m))) H3
      rw [e1]
      exact q _ (S2.trans SH3)
    | cons x r =>
      obtain ⟨xv, xd⟩ := x
      have S3 := S2.trans SH3
      have e1 : ((List.map (fun t : V × PyData => t.fst) ((xv, xd) :: r).reverse)) = (r.reverse.map fun t => t.1) ++ [xv] := by rw [List.reverse_cons, List.map_append] <;> rfl
      have e3 : (!((r.reverse.map fun t : V × PyData => t.1) ++ [xv]).isEmpty) = true := by cases (r.reverse.map fun t : V × PyData => t.1) <;> rfl
      have e4 : ((r.reverse.map fun t : V × PyData => t.1) ++ [xv])[((r.reverse.map fun t : V × PyData => t.1) ++ [xv]).length - 1]? = some xv := by rw [List.length_append, List.getElem?_append_right (by show _ ≤ _ + 1 - 1; omega)]; show [xv][_ + 1 - 1 - _]? = _; rw [Nat.add_sub_cancel, Nat.sub_self] <;> rfl
      have e5 : ((r.reverse.map fun t : V × PyData => t.1) ++ [xv]).dropLast = r.reverse.map fun t => t.1 := List.dropLast_concat
      rw [e1] at hL3 ⊢
      have hx : Th K p H xv xd := hts _ List.mem_cons_self
      have hr0 : ∀ t ∈ r, Th K p H t.1 t.2 := fun t ht => hts t (List.mem_cons_of_mem _ ht)
      have hlv2 : lv d = ris c ++ (lv xd ++ (r.map fun t => t.2).flatMap lv) := hlv
      have hle2 : nsz xd + szV r ≤ nsz d := hle
      obtain ⟨N, hN1, hN2⟩ : ∃ N : L2.St → Hp → Prop, (∀ σ' H', N σ' H' → ∃ m', m' < nsz xd + szV r ∧ ItT K p H v d m L m' σ' H') ∧ (∀ σ' H', (∃ m', m' < nsz xd + szV r ∧ ItT K p H v d m L m' σ' H') → N σ' H') := ⟨_, fun _ _ h => h, fun _ _ h => h⟩
      refine ifT e3 ⟨N, hN1, ?_⟩
      refine ⟨_, rfl, .inl ⟨rfl, _, SqL.of hL3⟩, L, _, xv, rfl, rfl, hL3, e4, ?_⟩
      rw [e5]
      generalize eH4 : upd H3 L (HO.lst (r.reverse.map fun t => t.1)) = H4
      have BH4 : But L H3 H4 := eH4 ▸ But.upd
      have oH4 : H4 L = some (HO.lst (r.reverse.map fun t => t.1)) := eH4 ▸ upd_same
      have S4 : Same H H4 := but_same hL S3 BH4
      have hx4 := hx.same S4
      have ty := hx4.ty
      have k1 := kit_tu (K := K) xd
      cases e : isTu xd with
      | false =>
        rw [e] at k1
        rw [lv_leaf e] at hlv2
        cases ew : isWh xd with
        | false =>
          try walk_at "go"
          rw [ew]
          refine ifT rfl (ifT rfl ?_)
          show Q (.bl false) H4
          rw [← isT_no (m := m) hlv2 (.inl ew)]
          exact q _ S4
        | true =>
          obtain ⟨i, rfl⟩ := isWh_inv ew
          have ev := hx.int_inv
          subst ev
          try walk_at "go"
          refine ite2 (fun cw => ?_) (fun cw => ?_)
          · show Q (.bl false) H4
            have ne : i ≠ (c : Int) := fun z => by subst z; rw [decide_eq_true rfl] at cw; cases cw
            rw [← isT_no (m := m) hlv2 (.inr ne)]
            exact q _ S4
          · have ei : i = (c : Int) := Decidable.byContradiction fun z => cw (by rw [decide_eq_false fun y => z (by injection y)] <;> rfl)
            subst ei
            try walk_at "go"
            refine hN2 _ _ ⟨szV r, by show szV r < 1 + szV r; omega, r, c + 1, _, rfl, S4, oH4, hr0, ?_, rfl, by show szV r ≤ _; have : nsz (.int (c : Nat)) = 1 := rfl; omega⟩
            rw [hlv2, ris_succ, List.append_assoc] <;> rfl
      | true =>
        rw [e] at k1
        obtain ⟨ds, rfl⟩ := isTu_inv e
        obtain ⟨a, tr, rfl, rfl, ha, htr⟩ := hx.tup_inv
        have ha4 := S4 _ _ ha
        have lm : (tr.map fun t => t.1).length = tr.length := List.length_map _
        try walk_at "go"
        refine ite2 (fun cw => ?_) (fun cw => ?_)
        · show Q (.bl false) H4
          have ne : tr.length ≠ 2 := fun z => by rw [lm, z] at cw; cases cw
          rw [lv_not (by rw [List.length_map]; exact ne)] at hlv2
          rw [← isT_no (m := m) hlv2 (.inl rfl)]
          exact q _ S4
        · have l2 : tr.length = 2 := Decidable.byContradiction fun z => cw (by rw [lm, decide_eq_false fun y => z (by injection y with y; omega)] <;> rfl)
          obtain ⟨x, y, rfl⟩ : ∃ x y, tr = [x, y] := by
            match tr, l2 with
            | [x, y], _ => exact ⟨x, y, rfl⟩
          have ha5 : H4 a = some (.tup [x.1, y.1]) := ha4
          clear ha4
          have i1 : atI [x.1, y.1] 1 = some y.1 := rfl
          have i0 : atI [x.1, y.1] 0 = some x.1 := rfl
          try walk_at "go"
          intro E hE
          generalize eH5 : upd _ E _ = H5
          have SH5 := newS eH5 hE
          have oE := newO eH5
          have oH5 := SH5 _ _ oH4
          have lr : r.length ≤ szV r := by
            have := nszs_len (r.map fun t => t.2)
            rw [List.length_map] at this
            exact this
          have lr2 : (List.map (fun t : V × PyData => t.1) r.reverse).length = r.length := by rw [List.length_map, List.length_reverse]
          try walk_at "go"
          have hle3 : (1 + (nsz x.2 + (nsz y.2 + 0))) + szV r ≤ nsz d := hle2
          have nx := nsz_pos x.2
          have ny := nsz_pos y.2
          refine ⟨by rw [lr2]; show r.length + 2 ≤ _; exact Nat.le_trans (show r.length + 2 ≤ 10000000 by omega) (by decide), ?_⟩
          generalize eH6 : upd H5 L (HO.lst ((r.reverse.map fun t => t.1) ++ [y.1, x.1])) = H6
          have BH6 : But L H5 H6 := eH6 ▸ But.upd
          have oH6 : H6 L = some (HO.lst ((r.reverse.map fun t => t.1) ++ [y.1, x.1])) := eH6 ▸ upd_same
          refine hN2 _ _ ⟨nsz x.2 + (nsz y.2 + szV r), by show _ < (1 + (nsz x.2 + (nsz y.2 + 0))) + szV r; omega, x :: y :: r, c, _, rfl, but_same hL (S4.trans SH5) BH6, ?_, ?_, ?_, rfl, by show nsz x.2 + (nsz y.2 + szV r) ≤ _; omega⟩
          · rw [oH6, List.reverse_cons, List.reverse_cons, List.append_assoc, List.map_append] <;> rfl
          · intro t ht
            rcases List.mem_cons.mp ht with rfl | ht
            · exact htr _ List.mem_cons_self
            rcases List.mem_cons.mp ht with rfl | ht
            · exact htr _ (List.mem_cons_of_mem _ List.mem_cons_self)
            · exact hr0 t ht
          · rw [hlv2]
            show ris c ++ (lv (.tuple [x.2, y.2]) ++ _) = ris c ++ (lv x.2 ++ (lv y.2 ++ _))
            rw [lv_two, List.append_assoc] <;> rfl
def spWT24 (K : PySem.W.Frag) (C : Addr) : Sp := fun vs H Q E => ∃ (v : V) (d : PyData) (p : Addr) (m : Nat), vs = [v, .int m] ∧ Th K p H v d ∧ nsz d ≤ 10000000 ∧ 1 ≤ m ∧ m ≤ 40 ∧ (isT d m = true → ∀ H', Same H H' → Q .non H') ∧ (isT d m = false → ∀ H', Same H H' → E (.ref C) none H')
theorem k_want_tree (D : Df K mg "want_tree" s_want_tree ["tree", "many"]) (D_is_tree : Dx P w K mg base 5 "is_tree" ["thing", "many"] (spIsT24 K (cAt mg "NoNumber"))) : Dx P w K mg base 6 "want_tree" ["tree", "many"] (spWT24 K (cAt mg "NoTree")) := by
  refine D.okX fun f fd F => okGX F sc_want_tree (fun vs H Q E h => ?_) (fun cdv A outer s H vs Q E hr h => ⟨_, (pss_one (ps_if (pt_not (pt_val (pe_cW D_is_tree (hr.less (by decide)) (takes_of rfl rfl rfl rfl) rfl (pa_cons (pv 0) (pa_cons (pv 1) pa_nil)))))
     (pss_one (ps_raise rfl (takes_of rfl rfl rfl rfl) (pmk_own PySem.F.excBase_ValueError B.NoTree_.ex B.NoTree_.mg_ B.NoTree_.kp (raises_own B.NoTree_.bs B.NoTree_.tp) rfl)))
     pss_nil)), ?_⟩)
  · obtain ⟨v, d, p, m, rfl, _⟩ := h; rfl
  · obtain ⟨v, d, p, m, rfl, hd, hs, m1, m40, q1, q2⟩ := h
    have hm : Th K p H (.int (m : Nat)) (.int (m : Nat)) := .int _
    try walk_at "go"
    refine ⟨fun m' e _ _ H1 S1 => ?_, fun e => ?_⟩
    · obtain rfl : m' = m := by have := PyData.int.inj e; omega
      cases e2 : isT d m' with
      | true =>
        try walk_at "go"
        refine ifF rfl ?_
        try walk_at "go"
        exact q1 e2 _ S1
      | false =>
        try walk_at "go"
        refine ifT rfl ?_
        exact q2 e2 _ S1
    · rw [isR_mk (by omega) (by omega)] at e
      cases e
def spWD24 (K : PySem.W.Frag) (C : Addr) : Sp := fun vs H Q E => ∃ (v : V) (d : PyData) (p : Addr), vs = [v] ∧ Th K p H v d ∧ (okDs d = true → ∀ H', Same H H' → Q .non H') ∧ (okDs d = false → ∀ H', Same H H' → E (.ref C) none H')
theorem k_want_deeds (D : Df K mg "want_deeds" s_want_deeds ["deeds"]) (D_is_deed : Dn P w K mg base 3 "is_deed" ["thing"] (spDeedT K)) : Dx P w K mg base 4 "want_deeds" ["deeds"] (spWD24 K (cAt mg "NoDeed")) := by
  refine D.okX fun f fd F => okGX F sc_want_deeds (fun vs H Q E h => ?_) (fun cdv A outer s H vs Q E hr h => ⟨_, (pss_one (ps_if (PW.pt (pw_or (pt_not (pt_val (pe_callB (kk (K := K) (F := rIsi) (P := CallR _ _) call_isi) (by rfl) B.isinstance_ (by decide +kernel) (pa_cons (pv 0) (pa_cons (pe_bltn (v := .ty "tuple") (u := .type "tuple") (by rfl) B.tuple_ (by decide +kernel) rfl) pa_nil))))) (pw_or (pt_not (pt_chain op_le op_le pe_int (pe_callB (lenK (K := K)) (by rfl) B.len_ (by decide +kernel) (pa_cons (pv 0) pa_nil)) (pe_glob (v := .int (40)) (u := .int (40) B.MOST_DEEDS_.choose) (by rfl) B.MOST_DEEDS_.choose_spec ⟨_, rfl⟩))) (pw_or1 (pt_not (pt_val (pe_callB (kk (K := K) (F := rAll) (P := CallR _ _) (cr_all rfl)) (by rfl) B.all_ (by decide +kernel) (pa_cons (pe_lc (own := [("one", 1)]) (g := gName 1) (tt := tYes) rfl sc_want_deeds.nd (kk (K := K) (F := fun K => iTup K _) (P := PI _ _ _) (pi_tup (pv 0))) (blkOk_by (own := [("one", 1)]) (N := ["deeds", "one"]) (sc := defScope s_want_deeds) (by decide +kernel)) (fun _ _ _ _ _ => (pg_name (i := 1) sc_want_deeds.nd rfl (Or.inl rfl))) (fun _ _ _ _ _ => pts_nil) (fun _ _ _ _ _ => (pe_cD D_is_deed (hr.less (by decide)) rfl (pa_cons (pv 1) pa_nil)))) pa_nil))))))))
     (pss_one (ps_raise rfl (takes_of rfl rfl rfl rfl) (pmk_own PySem.F.excBase_ValueError B.NoDeed_.ex B.NoDeed_.mg_ B.NoDeed_.kp (raises_own B.NoDeed_.bs B.NoDeed_.tp) rfl)))
     pss_nil)), ?_⟩)
  · obtain ⟨v, d, p, rfl, _⟩ := h; rfl
  · obtain ⟨v, d, p, rfl, hd, q1, q2⟩ := h
    have ty := hd.ty
    have k1 := kit_tu (K := K) d
    cases ed : isTu d with
    | false =>
      rw [ed] at k1
      try walk_at "go"
      first | exact q2 (okDs_no ed) _ (Same.refl _) | exact ifT rfl (q2 (okDs_no ed) _ (Same.refl _))
    | true =>
      rw [ed] at k1
      obtain ⟨ds, rfl⟩ := isTu_inv ed
      obtain ⟨a, tr, rfl, rfl, ha, htr⟩ := hd.tup_inv
      have eb : okDs (.tuple (tr.map fun t => t.2)) = (decide (1 ≤ tr.length) && (decide (tr.length ≤ 40) && (tr.map fun t => t.2).all isDd)) := by
        show (decide (1 ≤ (tr.map fun t => t.2).length) && (decide ((tr.map fun t => t.2).length ≤ 40) && _)) = _
        rw [len_map2]
      rw [eb] at q1 q2
      try walk_at "go"
      by_cases c1' : 1 ≤ tr.length
      · have e1 : decide ((1 : Int) ≤ ((tr.map fun t => t.1).length : Nat)) = true := decide_eq_true (by rw [len_map1]; omega)
        rw [decide_eq_true c1', Bool.true_and] at q1 q2
        refine ifT e1 ?_
        try walk_at "go"
        by_cases c2' : tr.length ≤ 40
        · have e2 : decide ((((tr.map fun t => t.1).length : Nat) : Int) ≤ 40) = true := decide_eq_true (by rw [len_map1]; omega)
          rw [decide_eq_true c2', Bool.true_and] at q1 q2
          refine ifF (by rw [e2] <;> rfl) ?_
          try walk_at "go"
          intro D hD
          refine lc_tup (K := K) (a := a) (xs := tr.map fun t => t.1) (fun i H' => Kept (Same H H' ∧ H' D = some (.lst (((tr.take i).map fun t => isDd t.2).map V.bl)))) ⟨same_new hD _, upd_same⟩ (fun i H' _ h => SqT.of (h.ex.1 _ _ ha)) ?_ ?_
          · rintro i y H2 hi ⟨S2, hD2⟩
            rw [List.getElem?_map] at hi
            obtain ⟨t, ht, rfl⟩ := Option.map_eq_some_iff.mp hi
            have th2 := (htr t (List.mem_of_getElem? ht)).same S2
            have ln : (((tr.take i).map fun t => isDd t.2).map V.bl).length ≤ 100 := by rw [List.length_map, List.length_map, List.length_take]; omega
            try walk_at "go"
            exact ⟨⟨but_same hD S2 But.upd, by rw [upd_same, take_snocB isDd ht]⟩⟩
          · rintro H2 ⟨S2, hD2⟩
            try walk_at "go"
            rw [take_all]
            cases e3 : (tr.map fun t => t.2).all isDd with
            | true =>
              refine ifF rfl ?_
              try walk_at "go"
              exact q1 e3 _ S2
            | false =>
              refine ifT rfl ?_
              exact q2 e3 _ S2
        · have e2 : decide ((((tr.map fun t => t.1).length : Nat) : Int) ≤ 40) = false := decide_eq_false (by rw [len_map1]; omega)
          rw [decide_eq_false c2', Bool.false_and] at q2
          refine ifT (by rw [e2] <;> rfl) ?_
          try walk_at "go"
          exact q2 rfl _ (Same.refl _)
      · have e1 : decide ((1 : Int) ≤ ((tr.map fun t => t.1).length : Nat)) = false := decide_eq_false (by rw [len_map1]; omega)
        rw [decide_eq_false c1', Bool.false_and] at q2
        refine ifF e1 ?_
        try walk_at "go"
        exact q2 rfl _ (Same.refl _)
/-! SPLIT -/
def spPut (K : PySem.W.Frag) : Sp := fun vs H Q _ => ∃ a d v, vs = [.ref a, .int v] ∧ SqT K H a (Dd.vs d) ∧ Q (.int (d.ap v)) H
theorem k_put_through (D : Df K mg "put_through" s_put_through ["deed", "value"]) : Dn P w K mg base 1 "put_through" ["deed", "value"] (spPut K) := by
  refine D.ok fun f fd F => okG0 F sc_put_through (fun vs H Q E h => ?_) (fun cdv A outer s H vs Q E hr h => ⟨_, (pss_cons (ps_asg (pv 0) (kk (K := K) (F := fun K => gTup K 3 _) (P := PG _ _) (pg_tup rfl (pgs_cons (pg_name (i := 2) sc_put_through.nd rfl (Or.inl rfl)) (pgs_cons (pg_name (i := 3) sc_put_through.nd rfl (Or.inl rfl)) (pgs_cons (pg_name (i := 4) sc_put_through.nd rfl (Or.inl rfl)) pgs_nil))))))
    (pss_cons (ps_set (i := 5) sc_put_through.nd rfl (Or.inl rfl) (pe_op op_add (pv 1) (pv 2)))
    (pss_cons (ps_if (pt_cmpR op_notN (pv 3) pe_non (nomark _))
      (pss_one (ps_set (i := 5) sc_put_through.nd rfl (Or.inl rfl) (pe_callB (call_max2 rfl) (by rfl) B.max_ (by decide +kernel) (pa_cons (pv 3) (pa_cons (pv 5) pa_nil)))))
      pss_nil)
    (pss_one (ps_ret (pe_ifExp (pt_cmpR op_isN (pv 4) pe_non (nomark _)) (pv 5) (pe_callB (call_min2 rfl) (by rfl) B.min_ (by decide +kernel) (pa_cons (pv 4) (pa_cons (pv 5) pa_nil))))))))), ?_⟩)
  · obtain ⟨a, d, v, rfl, _⟩ := h; rfl
  · obtain ⟨a, d, v, rfl, hx, q⟩ := h
    refine ⟨_, rfl, a, _, rfl, hx, rfl, _, _, rfl, _, _, rfl, _, _, rfl, rfl, ?_⟩
    refine ⟨_, rfl, _, rfl, _, _, rfl, rfl, ?_⟩
    obtain ⟨add, low, high⟩ := d
    cases low with
    | none =>
      refine ⟨_, rfl, rfl, _, rfl, iteF ?_⟩
      cases high with
      | none => exact ⟨_, rfl, rfl, _, rfl, iteT ⟨_, rfl, q⟩⟩
      | some h => exact ⟨_, rfl, rfl, _, rfl, iteF ⟨_, rfl, _, rfl, _, _, rfl, q⟩⟩
    | some l =>
      refine ⟨_, rfl, rfl, _, rfl, iteT ⟨_, rfl, _, rfl, _, _, rfl, ?_⟩⟩
      cases high with
      | none => exact ⟨_, rfl, rfl, _, rfl, iteT ⟨_, rfl, q⟩⟩
      | some h => exact ⟨_, rfl, rfl, _, rfl, iteF ⟨_, rfl, _, rfl, _, _, rfl, q⟩⟩
def spWholeDeed : Sp := fun vs H Q _ => ∃ (add : Int) (low high : Option Int), vs = [.int add, oV low, oV high] ∧ NewD H Q (wholeD add low high)
theorem k_whole_deed (D : Df K mg "whole_deed" s_whole_deed ["add", "low", "high"]) : Dn P w K mg base 1 "whole_deed" ["add", "low", "high"] spWholeDeed := by
  refine D.ok fun f fd F => okG0 F sc_whole_deed (fun vs H Q E h => ?_) (fun cdv A outer s H vs Q E hr h => ⟨_, (pss_cons (ps_if (PW.pt (pw_and (pt_cmpR op_notN (pv 1) pe_non (nomark _)) (pw_and1 (pt_cmpR op_eq (pv 1) (pv 2) (nomark _)))))
      (pss_one (ps_ret (pe_tup (pa_cons pe_int (pa_cons (pv 1) (pa_cons (pv 2) pa_nil))))))
      pss_nil)
    (pss_one (ps_ret (pe_tup (pa_cons (pv 0) (pa_cons (pv 1) (pa_cons (pv 2) pa_nil))))))), ?_⟩)
  · obtain ⟨add, low, high, rfl, _⟩ := h; rfl
  · obtain ⟨add, low, high, rfl, q⟩ := h
    have key : ∀ d : Dd, wholeD add low high = d → tRet (tTup (tCons (tC (.int d.add)) (tCons (tC (oV d.low)) (tCons (tC (oV d.high)) tNil)))) { nx := fun _ H' => Q .non H', rt := Q } (start ["add", "low", "high"] [.int add, oV low, oV high]) H := by
      rintro d rfl
      exact ⟨sz, fun p hp => q p _ (same_new hp _) hp upd_same⟩
    cases low with
    | none =>
      refine ⟨_, rfl, rfl, _, rfl, iteF (iteF ?_)⟩
      have := key ⟨add, none, high⟩ (if_neg fun z => z.1 rfl)
      exact ⟨_, rfl, _, rfl, _, rfl, this⟩
    | some l =>
      refine ⟨_, rfl, rfl, _, rfl, iteT ⟨_, rfl, _, rfl, ?_⟩⟩
      cases high with
      | none =>
        have := key ⟨add, some l, none⟩ (if_neg fun z => nomatch z.2)
        exact ⟨rfl, _, rfl, iteF ⟨_, rfl, _, rfl, _, rfl, this⟩⟩
      | some h =>
        refine ⟨rfl, _, rfl, ite2 (fun c => ?_) (fun c => ?_)⟩
        · have c' : l = h := by have := of_decide_eq_true c; cases this; rfl
          have := key ⟨0, some l, some h⟩ (if_pos ⟨Option.some_ne_none l, by rw [c']⟩)
          exact ⟨_, rfl, _, rfl, this⟩
        · have c' : ¬ l = h := fun e => c (decide_eq_true (by rw [e]))
          have := key ⟨add, some l, some h⟩ (if_neg fun z => c' (Option.some.inj z.2))
          exact ⟨_, rfl, _, rfl, _, rfl, this⟩
def spBehind (K : PySem.W.Frag) : Sp := fun vs H Q _ => ∃ (a b : Addr) (d e : Dd), vs = [.ref a, .ref b] ∧ SqT K H a d.vs ∧ SqT K H b e.vs ∧ NewD H Q (beh d e)
theorem k_one_behind (D : Df K mg "one_behind" s_one_behind ["one", "other"]) (D_put_through : Dn P w K mg base 1 "put_through" ["deed", "value"] (spPut K)) (D_whole_deed : Dn P w K mg base 1 "whole_deed" ["add", "low", "high"] spWholeDeed) : Dn P w K mg base 2 "one_behind" ["one", "other"] (spBehind K) := by
  refine D.ok fun f fd F => okG0 F sc_one_behind (fun vs H Q E h => ?_) (fun cdv A outer s H vs Q E hr h => ⟨_, (pss_cons (ps_par (i := 2) (j := 3) rfl sc_one_behind.nd rfl rfl (by decide) rfl rfl (pa_cons (pe_ix (kk (K := K) (F := rIxT) (P := IxR _) ix_tup) (pv 1) pe_int (fun _ _ => rfl)) (pa_cons (pe_ix (kk (K := K) (F := rIxT) (P := IxR _) ix_tup) (pv 1) pe_int (fun _ _ => rfl)) pa_nil)) (by rfl))
    (pss_cons (ps_if (pt_cmpR op_notN (pe_ix (kk (K := K) (F := rIxT) (P := IxR _) ix_tup) (pv 0) pe_int (fun _ _ => rfl)) pe_non (nomark _))
      (pss_one (ps_set (i := 2) sc_one_behind.nd rfl (Or.inl rfl) (pe_cD D_put_through (hr.less (by decide)) rfl (pa_cons (pv 1) (pa_cons (pe_ix (kk (K := K) (F := rIxT) (P := IxR _) ix_tup) (pv 0) pe_int (fun _ _ => rfl)) pa_nil)))))
      pss_nil)
    (pss_cons (ps_if (pt_cmpR op_notN (pe_ix (kk (K := K) (F := rIxT) (P := IxR _) ix_tup) (pv 0) pe_int (fun _ _ => rfl)) pe_non (nomark _))
      (pss_one (ps_set (i := 3) sc_one_behind.nd rfl (Or.inl rfl) (pe_cD D_put_through (hr.less (by decide)) rfl (pa_cons (pv 1) (pa_cons (pe_ix (kk (K := K) (F := rIxT) (P := IxR _) ix_tup) (pv 0) pe_int (fun _ _ => rfl)) pa_nil)))))
      pss_nil)
    (pss_one (ps_ret (pe_cD D_whole_deed (hr.less (by decide)) rfl (pa_cons (pe_op op_add (pe_ix (kk (K := K) (F := rIxT) (P := IxR _) ix_tup) (pv 0) pe_int (fun _ _ => rfl)) (pe_ix (kk (K := K) (F := rIxT) (P := IxR _) ix_tup) (pv 1) pe_int (fun _ _ => rfl))) (pa_cons (pv 2) (pa_cons (pv 3) pa_nil))))))))), ?_⟩)
  · obtain ⟨a, b, d, e, rfl, _⟩ := h; rfl
  · obtain ⟨a, b, d, e, rfl, ha, hb, q⟩ := h
    refine ⟨_, rfl, b, _, _, _, rfl, rfl, hb, at_of (j := 1) rfl rfl, _, rfl, b, _, _, _, rfl, rfl, hb, at_of (j := 2) rfl rfl, _, _, rfl, ?_⟩
    refine ⟨_, rfl, a, _, _, _, rfl, rfl, ha, at_of (j := 1) rfl rfl, rfl, _, rfl, ?_⟩
    have fin : ∀ lo hi : Option Int, endBeh e d.low e.low = lo → endBeh e d.high e.high = hi → tRet (tCall spWholeDeed [] E0 (tCons (tOp (rI0 fun i j => V.int (i + j)) (tOp (rIxT K) (tVar 0) (tC (.int 0))) (tOp (rIxT K) (tVar 1) (tC (.int 0)))) (tCons (tVar 2) (tCons (tVar 3) tNil)))) { nx := fun _ H' => Q .non H', rt := Q }
        [some (.ref a), some (.ref b), some (oV lo), some (oV hi)] H := by
      rintro _ _ rfl rfl
      exact ⟨_, rfl, a, _, _, _, rfl, rfl, ha, at_of (j := 0) rfl rfl, _, rfl, b, _, _, _, rfl, rfl, hb, at_of (j := 0) rfl rfl, _, _, rfl, rfl, _, rfl, _, rfl, _, _, _, rfl, q⟩
    have hi : ∀ lo : Option Int, endBeh e d.low e.low = lo → tSeq (tIfS (tTest (tOp (fun x y H Q => y = V.non ∧ Q (V.bl (!decide (x = V.non))) H) (tOp (rIxT K) (tVar 0) (tC (.int 2))) (tC .non))) (tAsg (tCall (spPut K) [] E0 (tCons (tVar 1) (tCons (tOp (rIxT K) (tVar 0) (tC (.int 2))) tNil))) (gName 3)) tNext)
        (tRet (tCall spWholeDeed [] E0 (tCons (tOp (rI0 fun i j => V.int (i + j)) (tOp (rIxT K) (tVar 0) (tC (.int 0))) (tOp (rIxT K) (tVar 1) (tC (.int 0)))) (tCons (tVar 2) (tCons (tVar 3) tNil))))) { nx := fun _ H' => Q .non H', rt := Q }
        [some (.ref a), some (.ref b), some (oV lo), some (oV e.high)] H := by
      intro lo hlo
      refine ⟨_, rfl, a, _, _, _, rfl, rfl, ha, at_of (j := 2) rfl rfl, rfl, _, rfl, ?_⟩
      cases eh : d.high with
      | none => exact iteF (fin lo e.high hlo (by rw [eh] <;> rfl))
      | some k =>
        refine iteT ⟨_, rfl, _, rfl, a, _, _, _, rfl, rfl, ha, at_of (j := 2) rfl rfl, b, e, k, by rw [eh] <;> rfl, hb, ?_⟩
        exact fin lo (some _) hlo (by rw [eh] <;> rfl)
    cases el : d.low with
    | none => exact iteF (hi e.low (by rw [el] <;> rfl))
    | some k =>
      refine iteT ⟨_, rfl, _, rfl, a, _, _, _, rfl, rfl, ha, at_of (j := 1) rfl rfl, b, e, k, by rw [el] <;> rfl, hb, ?_⟩
      exact hi (some _) (by rw [el] <;> rfl)
omit B in
theorem Tr.hp : ∀ t : Tr, 1 ≤ t.h
  | .leaf _ => Nat.le_refl _
  | .node l r => by show 1 ≤ max l.h r.h + 1; omega
def spFo24 (K : PySem.W.Frag) (n : Nat) : Sp := fun vs H Q _ => ∃ (k : Addr) (ps : List (Addr × Dd)) (v : V) (t : Tr), vs = [.ref k, v] ∧ DnAt H k ps ∧ TrAt H v t ∧ t.big < ps.length ∧ t.h ≤ n ∧ ∀ a (e : Dd) H', Same H H' → H' a = some (.tup e.vs) → Q (.ref a) H'
theorem folded_of_z (vs : List V) (H : Hp) (Q : VK) (E : XK) : ¬ spFo24 K 0 vs H Q E := by
  rintro ⟨k, ps, v, t, _, _, _, _, h2, _⟩
  have := t.hp
  omega
theorem k_folded_of_rec (D : Df K mg "folded_of" s_folded_of ["deeds", "tree"]) (D_one_behind : Dn P w K mg base 2 "one_behind" ["one", "other"] (spBehind K)) : ∀ n : Nat, Dn P w K mg base (3 + n) "folded_of" ["deeds", "tree"] ((spFo24 K) n) := by
  intro n
  induction n with
  | zero => exact D.ok fun f fd F => ⟨fun vs H Q E h => (folded_of_z B vs H Q E h).elim, fun _ _ _ _ h => (folded_of_z B _ _ _ _ h).elim⟩
  | succ n D_folded_of =>
    refine D.ok fun f fd F => okG0 (k := 3 + n) F sc_folded_of (fun vs H Q E h => ?_) (fun cdv A outer s H vs Q E hr h => ⟨_, (pss_cons (ps_if (pt_not (pt_val (pe_callB (kk (K := K) (F := rIsi) (P := CallR _ _) call_isi) (by rfl) B.isinstance_ (by decide +kernel) (pa_cons (pv 1) (pa_cons (pe_bltn (v := .ty "tuple") (u := .type "tuple") (by rfl) B.tuple_ (by decide +kernel) rfl) pa_nil)))))
      (pss_one (ps_ret (pe_ix (kk (K := K) (F := rIxT) (P := IxR _) ix_tup) (pv 0) (pv 1) (fun _ _ => rfl))))
      pss_nil)
    (pss_one (ps_ret (pe_cD D_one_behind (hr.less (by omega)) rfl (pa_cons (pe_cD D_folded_of (hr.less (by omega)) rfl (pa_cons (pv 0) (pa_cons (pe_ix (kk (K := K) (F := rIxT) (P := IxR _) ix_tup) (pv 1) pe_int (fun _ _ => rfl)) pa_nil))) (pa_cons (pe_cD D_folded_of (hr.less (by omega)) rfl (pa_cons (pv 0) (pa_cons (pe_ix (kk (K := K) (F := rIxT) (P := IxR _) ix_tup) (pv 1) pe_int (fun _ _ => rfl)) pa_nil))) pa_nil)))))), ?_⟩)
    · obtain ⟨k, ps, v, t, rfl, _⟩ := h; rfl
    · obtain ⟨k, ps, v, t, rfl, hk, ht, hb, hn, q⟩ := h
      cases t with
      | leaf m =>
        cases (show v = V.int m from ht)
        have hl' : m < ps.length := hb
        refine ⟨_, rfl, _, _, _, _, _, rfl, .ty _, .base (.int _), kit_ty (b := "tuple") (r := false) (by decide +kernel), _, rfl, iteT ?_⟩
        refine ⟨_, rfl, _, rfl, k, _, _, _, rfl, rfl, SqT.of hk.1, at_of (j := m) rfl (by rw [List.getElem?_map, List.getElem?_eq_getElem hl'] <;> rfl), ?_⟩
        exact q _ ps[m].2 _ (Same.refl _) (hk.2 ps[m] (List.getElem_mem hl'))
      | node l r =>
        obtain ⟨a, x, y, hv, ha, hx, hy⟩ := ht
        cases (show v = V.ref a from hv)
        have hn' : max l.h r.h + 1 ≤ n + 1 := hn
        have hb' : max l.big r.big < ps.length := hb
        refine ⟨_, rfl, _, _, _, _, _, rfl, .ty _, .base (.tup ha), kit_ty (b := "tuple") (r := true) (by decide +kernel), _, rfl, iteF ?_⟩
        refine ⟨_, rfl, _, rfl, a, _, _, _, rfl, rfl, SqT.of ha, at_of (j := 0) rfl rfl, k, ps, x, l, rfl, hk, hx, by omega, by omega, fun b1 e1 H1 S1 hb1 => ?_⟩
        refine ⟨_, rfl, _, rfl, a, _, _, _, rfl, rfl, SqT.of (S1 _ _ ha), at_of (j := 1) rfl rfl, k, ps, y, r, rfl, hk.same S1, hy.same S1, by omega, by omega, fun b2 e2 H2 S2 hb2 => ?_⟩
        refine ⟨b1, b2, _, _, rfl, SqT.of (S2 _ _ hb1), SqT.of hb2, fun c H3 S3 _ hc => q _ _ _ (S1.trans (S2.trans S3)) hc⟩
theorem k_folded_of (D : Df K mg "folded_of" s_folded_of ["deeds", "tree"]) (D_one_behind : Dn P w K mg base 2 "one_behind" ["one", "other"] (spBehind K)) : Dn P w K mg base 43 "folded_of" ["deeds", "tree"] ((spFo24 K) 40) := k_folded_of_rec B D D_one_behind 40
def spFold24 (K : PySem.W.Frag) (D T : Addr) : Sp := fun vs H Q E => ∃ (v w : V) (d dt : PyData) (p : Addr), vs = [v, w] ∧ Th K p H v d ∧ Th K p H w dt ∧ nsz dt ≤ 10000000 ∧ (okDs d = true → isT dt (tlen d) = true → ∀ x H', Same H H' → Q x H') ∧ (okDs d = false → ∀ H', Same H H' → E (.ref D) none H') ∧ (okDs d = true → isT dt (tlen d) = false → ∀ H', Same H H' → E (.ref T) none H')
theorem k_folded (D : Df K mg "folded" s_folded ["deeds", "tree"]) (D_want_deeds : Dx P w K mg base 4 "want_deeds" ["deeds"] (spWD24 K (cAt mg "NoDeed"))) (D_want_tree : Dx P w K mg base 6 "want_tree" ["tree", "many"] (spWT24 K (cAt mg "NoTree"))) (D_folded_of : Dn P w K mg base 43 "folded_of" ["deeds", "tree"] ((spFo24 K) 40)) : Dx P w K mg base 45 "folded" ["deeds", "tree"] (spFold24 K (cAt mg "NoDeed") (cAt mg "NoTree")) := by
  refine D.okX fun f fd F => okGX F sc_folded (fun vs H Q E h => ?_) (fun cdv A outer s H vs Q E hr h => ⟨_, (pss_cons (ps_expr (pe_cW D_want_deeds (hr.less (by decide)) (takes_of rfl rfl rfl rfl) rfl (pa_cons (pv 0) pa_nil)))
    (pss_cons (ps_expr (pe_cW D_want_tree (hr.less (by decide)) (takes_of rfl rfl rfl rfl) rfl (pa_cons (pv 1) (pa_cons (pe_callB (lenK (K := K)) (by rfl) B.len_ (by decide +kernel) (pa_cons (pv 0) pa_nil)) pa_nil))))
    (pss_one (ps_ret (pe_cD D_folded_of (hr.less (by decide)) rfl (pa_cons (pv 0) (pa_cons (pv 1) pa_nil))))))), ?_⟩)
  · obtain ⟨v, w, d, dt, p, rfl, _⟩ := h; rfl
  · obtain ⟨v, w, d, dt, p, rfl, hd, hw, hs, q1, q2, q3⟩ := h
    try walk_at "go"
    refine ⟨fun e1 H1 S1 => ?_, fun e1 H1 S1 => q2 e1 H1 S1⟩
    obtain ⟨ds, rfl, l1, l2, l3⟩ := okDs_tu e1
    obtain ⟨k, ps, rfl, hk, lp⟩ := dn_of hd l3
    have hk1 := hk.same S1
    have hkT := hk1.1
    have hw1 := hw.same S1
    have lk : (ps.map fun x => V.ref x.1).length = ds.length := by rw [List.length_map, lp]
    have n1 : 1 ≤ (ps.map fun x => V.ref x.1).length := by omega
    have n40 : (ps.map fun x => V.ref x.1).length ≤ 40 := by omega
    try walk_at "go"
    rw [lk]
    refine ⟨fun e2 H2 S2 => ?_, fun e2 H2 S2 => q3 e1 e2 H2 (S1.trans S2)⟩
    obtain ⟨t, a1, a2, a3, a4⟩ := tr_is hw e2
    have S12 := S1.trans S2
    refine ⟨_, rfl, _, rfl, k, ps, w, t, rfl, hk.same S12, a1.same S12, by omega, by omega, fun a e H3 S3 _ => ?_⟩
    exact q1 e1 e2 _ _ (S12.trans S3)
def spSh24 (K : PySem.W.Frag) (n : Nat) : Sp := fun vs H Q _ => ∃ (k : Addr) (ps : List (Addr × Dd)) (v : V) (t : Tr) (x : Int), vs = [.ref k, v, .int x] ∧ DnAt H k ps ∧ TrAt H v t ∧ t.big < ps.length ∧ t.h ≤ n ∧ t.cnt ≤ 40 ∧ ∀ r l a (us : List Int) (e : Dd) H', Same H H' → H' r = some (.tup [.ref l, .ref a]) → H' l = some (.lst (us.map V.int)) → us.length = t.cnt → H' a = some (.tup e.vs) → Q (.ref r) H'
theorem shared_of_z (vs : List V) (H : Hp) (Q : VK) (E : XK) : ¬ spSh24 K 0 vs H Q E := by
  rintro ⟨k, ps, v, t, x, _, _, _, _, h2, _⟩
  have := t.hp
  omega
theorem k_shared_of_rec (D : Df K mg "shared_of" s_shared_of ["deeds", "tree", "value"]) (D_put_through : Dn P w K mg base 1 "put_through" ["deed", "value"] (spPut K)) (D_one_behind : Dn P w K mg base 2 "one_behind" ["one", "other"] (spBehind K)) : ∀ n : Nat, Dn P w K mg base (3 + n) "shared_of" ["deeds", "tree", "value"] ((spSh24 K) n) := by
  intro n
  induction n with
  | zero => exact D.ok fun f fd F => ⟨fun vs H Q E h => (shared_of_z B vs H Q E h).elim, fun _ _ _ _ h => (shared_of_z B _ _ _ _ h).elim⟩
  | succ n D_shared_of =>
    refine D.ok fun f fd F => okG0 (k := 3 + n) F sc_shared_of (fun vs H Q E h => ?_) (fun cdv A outer s H vs Q E hr h => ⟨_, (pss_cons (ps_if (pt_not (pt_val (pe_callB (kk (K := K) (F := rIsi) (P := CallR _ _) call_isi) (by rfl) B.isinstance_ (by decide +kernel) (pa_cons (pv 1) (pa_cons (pe_bltn (v := .ty "tuple") (u := .type "tuple") (by rfl) B.tuple_ (by decide +kernel) rfl) pa_nil)))))
      (pss_one (ps_ret (pe_tup (pa_cons (pe_lst (pa_cons (pv 2) pa_nil)) (pa_cons (pe_ix (kk (K := K) (F := rIxT) (P := IxR _) ix_tup) (pv 0) (pv 1) (fun _ _ => rfl)) pa_nil)))))
      pss_nil)
    (pss_cons (ps_asg (pe_cD D_shared_of (hr.less (by omega)) rfl (pa_cons (pv 0) (pa_cons (pe_ix (kk (K := K) (F := rIxT) (P := IxR _) ix_tup) (pv 1) pe_int (fun _ _ => rfl)) (pa_cons (pv 2) pa_nil)))) (kk (K := K) (F := fun K => gTup K 2 _) (P := PG _ _) (pg_tup rfl (pgs_cons (pg_name (i := 3) sc_shared_of.nd rfl (Or.inl rfl)) (pgs_cons (pg_name (i := 4) sc_shared_of.nd rfl (Or.inl rfl)) pgs_nil)))))
    (pss_cons (ps_asg (pe_cD D_shared_of (hr.less (by omega)) rfl (pa_cons (pv 0) (pa_cons (pe_ix (kk (K := K) (F := rIxT) (P := IxR _) ix_tup) (pv 1) pe_int (fun _ _ => rfl)) (pa_cons (pe_cD D_put_through (hr.less (by omega)) rfl (pa_cons (pv 4) (pa_cons (pv 2) pa_nil))) pa_nil)))) (kk (K := K) (F := fun K => gTup K 2 _) (P := PG _ _) (pg_tup rfl (pgs_cons (pg_name (i := 5) sc_shared_of.nd rfl (Or.inl rfl)) (pgs_cons (pg_name (i := 6) sc_shared_of.nd rfl (Or.inl rfl)) pgs_nil)))))
    (pss_one (ps_ret (pe_tup (pa_cons (pe_op op_cat (pv 3) (pv 5)) (pa_cons (pe_cD D_one_behind (hr.less (by omega)) rfl (pa_cons (pv 4) (pa_cons (pv 6) pa_nil))) pa_nil)))))))), ?_⟩)
    · obtain ⟨k, ps, v, t, x, rfl, _⟩ := h; rfl
    · obtain ⟨k, ps, v, t, z, rfl, hk, ht, hb, hn, hc, q⟩ := h
      cases t with
      | leaf m =>
        cases (show v = V.int m from ht)
        have hl' : m < ps.length := hb
        refine ⟨_, rfl, _, _, _, _, _, rfl, .ty _, .base (.int _), kit_ty (b := "tuple") (r := false) (by decide +kernel), _, rfl, iteT ?_⟩
        refine ⟨_, rfl, sz, fun l hL => ⟨_, rfl, _, rfl, k, _, _, _, rfl, rfl, SqT.of ((same_new hL _) _ _ hk.1), at_of (j := m) rfl (by rw [List.getElem?_map, List.getElem?_eq_getElem hl'] <;> rfl), sz, fun r hR => ?_⟩⟩
        have S1 := same_new hL (.lst [.int z])
        have S2 := same_new hR (HO.tup [V.ref l, V.ref ps[m].1])
        exact q r l ps[m].1 [z] ps[m].2 _ (S1.trans S2) upd_same (S2 _ _ upd_same) rfl (S2 _ _ (S1 _ _ (hk.2 ps[m] (List.getElem_mem hl'))))
      | node l r =>
        obtain ⟨a, x, y, hv, ha, hx, hy⟩ := ht
        cases (show v = V.ref a from hv)
        have hn' : max l.h r.h + 1 ≤ n + 1 := hn
        have hb' : max l.big r.big < ps.length := hb
        have hc' : l.cnt + r.cnt ≤ 40 := hc
        refine ⟨_, rfl, _, _, _, _, _, rfl, .ty _, .base (.tup ha), kit_ty (b := "tuple") (r := true) (by decide +kernel), _, rfl, iteF ?_⟩
        refine ⟨_, rfl, _, rfl, a, _, _, _, rfl, rfl, SqT.of ha, at_of (j := 0) rfl rfl, _, rfl, k, ps, x, l, z, rfl, hk, hx, by omega, by omega, by omega, fun r1 l1 b1 us1 e1 H1 S1 g1 g2 gl g3 => ?_⟩
        refine ⟨r1, _, rfl, SqT.of g1, rfl, _, _, rfl, _, _, rfl, rfl, ?_⟩
        refine ⟨_, rfl, _, rfl, a, _, _, _, rfl, rfl, SqT.of (S1 _ _ ha), at_of (j := 1) rfl rfl, _, rfl, _, rfl, b1, e1, z, rfl, SqT.of g3, k, ps, y, r, _, rfl, hk.same S1, hy.same S1, by omega, by omega, by omega, fun r2 l2 b2 us2 e2 H2 S2 f1 f2 fl f3 => ?_⟩
        refine ⟨r2, _, rfl, SqT.of f1, rfl, _, _, rfl, _, _, rfl, rfl, ?_⟩
        refine ⟨_, rfl, _, rfl, l1, l2, _, _, rfl, rfl, S2 _ _ g2, f2, small (by rw [List.length_map, List.length_map]; omega), fun L hL => ⟨_, rfl, _, rfl, b1, b2, _, _, rfl, SqT.of ((same_new hL _) _ _ (S2 _ _ g3)), SqT.of ((same_new hL _) _ _ f3), fun c H3 S3 _ hc => ⟨sz, fun r3 h3 => ?_⟩⟩⟩
        have S4 := same_new hL (.lst (us1.map V.int ++ us2.map V.int))
        have S5 := same_new h3 (.tup [.ref L, .ref c])
        refine q r3 L c (us1 ++ us2) _ _ (S1.trans (S2.trans (S4.trans (S3.trans S5)))) upd_same (S5 _ _ (S3 _ _ ?_)) (by rw [List.length_append, gl, fl] <;> rfl) (S5 _ _ hc)
        rw [upd_same, List.map_append]
theorem k_shared_of (D : Df K mg "shared_of" s_shared_of ["deeds", "tree", "value"]) (D_put_through : Dn P w K mg base 1 "put_through" ["deed", "value"] (spPut K)) (D_one_behind : Dn P w K mg base 2 "one_behind" ["one", "other"] (spBehind K)) : Dn P w K mg base 43 "shared_of" ["deeds", "tree", "value"] ((spSh24 K) 40) := k_shared_of_rec B D D_put_through D_one_behind 40
def spShare24 (K : PySem.W.Frag) (N D T : Addr) : Sp := fun vs H Q E => ∃ (v w u : V) (d dt du : PyData) (p : Addr), vs = [v, w, u] ∧ Th K p H v d ∧ Th K p H w dt ∧ Th K p H u du ∧ nsz dt ≤ 10000000 ∧ (isWh du = true → okDs d = true → isT dt (tlen d) = true → ∀ x H', Same H H' → Q x H') ∧ (isWh du = false → ∀ H', Same H H' → E (.ref N) none H') ∧ (isWh du = true → okDs d = false → ∀ H', Same H H' → E (.ref D) none H') ∧ (isWh du = true → okDs d = true → isT dt (tlen d) = false → ∀ H', Same H H' → E (.ref T) none H')
theorem k_shared_out (D : Df K mg "shared_out" s_shared_out ["deeds", "tree", "value"]) (D_want_whole : Dx P w K mg base 2 "want_whole" ["thing"] (spWW24 K (cAt mg "NoNumber"))) (D_want_deeds : Dx P w K mg base 4 "want_deeds" ["deeds"] (spWD24 K (cAt mg "NoDeed"))) (D_want_tree : Dx P w K mg base 6 "want_tree" ["tree", "many"] (spWT24 K (cAt mg "NoTree"))) (D_shared_of : Dn P w K mg base 43 "shared_of" ["deeds", "tree", "value"] ((spSh24 K) 40)) : Dx P w K mg base 46 "shared_out" ["deeds", "tree", "value"] (spShare24 K (cAt mg "NoNumber") (cAt mg "NoDeed") (cAt mg "NoTree")) := by
  refine D.okX fun f fd F => okGX F sc_shared_out (fun vs H Q E h => ?_) (fun cdv A outer s H vs Q E hr h => ⟨_, (pss_cons (ps_expr (pe_cW D_want_whole (hr.less (by decide)) (takes_of rfl rfl rfl rfl) rfl (pa_cons (pv 2) pa_nil)))
    (pss_cons (ps_expr (pe_cW D_want_deeds (hr.less (by decide)) (takes_of rfl rfl rfl rfl) rfl (pa_cons (pv 0) pa_nil)))
    (pss_cons (ps_expr (pe_cW D_want_tree (hr.less (by decide)) (takes_of rfl rfl rfl rfl) rfl (pa_cons (pv 1) (pa_cons (pe_callB (lenK (K := K)) (by rfl) B.len_ (by decide +kernel) (pa_cons (pv 0) pa_nil)) pa_nil))))
    (pss_one (ps_ret (pe_callTy (tupOfK (K := K)) (by rfl) B.tuple_ (by decide +kernel) (pa_cons (pe_ix (kk (K := K) (F := rIxT) (P := IxR _) ix_tup) (pe_cD D_shared_of (hr.less (by decide)) rfl (pa_cons (pv 0) (pa_cons (pv 1) (pa_cons (pv 2) pa_nil)))) pe_int (fun _ _ => rfl)) pa_nil))))))), ?_⟩)
  · obtain ⟨v, w, u, d, dt, du, p, rfl, _⟩ := h; rfl
  · obtain ⟨v, w, u, d, dt, du, p, rfl, hd, hw, hu, hs, q1, q2, q3, q4⟩ := h
    try walk_at "go"
    refine ⟨fun e0 => ?_, fun e0 => q2 e0 H (Same.refl _)⟩
    obtain ⟨x, rfl⟩ := isWh_inv e0
    cases hu.int_inv
    try walk_at "go"
    refine ⟨fun e1 H1 S1 => ?_, fun e1 H1 S1 => q3 e0 e1 H1 S1⟩
    obtain ⟨ds, rfl, l1, l2, l3⟩ := okDs_tu e1
    obtain ⟨k, ps, rfl, hk, lp⟩ := dn_of hd l3
    have hk1 := hk.same S1
    have hkT := hk1.1
    have hw1 := hw.same S1
    have lk : (ps.map fun x => V.ref x.1).length = ds.length := by rw [List.length_map, lp]
    have n1 : 1 ≤ (ps.map fun x => V.ref x.1).length := by omega
    have n40 : (ps.map fun x => V.ref x.1).length ≤ 40 := by omega
    try walk_at "go"
    rw [lk]
    refine ⟨fun e2 H2 S2 => ?_, fun e2 H2 S2 => q4 e0 e1 e2 H2 (S1.trans S2)⟩
    obtain ⟨t, a1, a2, a3, a4⟩ := tr_is hw e2
    have S12 := S1.trans S2
    refine ⟨_, rfl, _, rfl, _, rfl, k, ps, w, t, x, rfl, hk.same S12, a1.same S12, by omega, by omega, by omega, fun r l a us e H3 S3 o1 o2 _ _ => ?_⟩
    try walk_at "go"
    intro Z hZ
    generalize eH4 : upd _ Z _ = H4
    have SH4 := newS eH4 hZ
    have oZ := newO eH4
    exact q1 e0 e1 e2 _ _ (S12.trans (S3.trans SH4))
def spHf (n : Nat) : Sp := fun vs H Q _ => ∃ f m : Nat, vs = [.int f, .int m] ∧ 1 ≤ m ∧ m ≤ n ∧ ∀ v H', Same H H' → TrAt H' v (hv f m) → Q v H'
theorem halved_from_z (vs : List V) (H : Hp) (Q : VK) (E : XK) : ¬ spHf 0 vs H Q E := by
  rintro ⟨f, m, _, h1, h2, _⟩
  omega
theorem k_halved_from_rec (D : Df K mg "halved_from" s_halved_from ["first", "many"]) : ∀ n : Nat, Dn P w K mg base (1 + n) "halved_from" ["first", "many"] (spHf n) := by
  intro n
  induction n with
  | zero => exact D.ok fun f fd F => ⟨fun vs H Q E h => (halved_from_z B vs H Q E h).elim, fun _ _ _ _ h => (halved_from_z B _ _ _ _ h).elim⟩
  | succ n D_halved_from =>
    refine D.ok fun f fd F => okG0 (k := 1 + n) F sc_halved_from (fun vs H Q E h => ?_) (fun cdv A outer s H vs Q E hr h => ⟨_, (pss_cons (ps_if (pt_cmpR op_eq (pv 1) pe_int (nomark _))
      (pss_one (ps_ret (pv 0)))
      pss_nil)
    (pss_cons (ps_set (i := 2) sc_halved_from.nd rfl (Or.inl rfl) (pe_op op_fdivW (pe_op op_add (pv 1) pe_int) pe_int))
    (pss_one (ps_ret (pe_tup (pa_cons (pe_cD D_halved_from (hr.less (by omega)) rfl (pa_cons (pv 0) (pa_cons (pv 2) pa_nil))) (pa_cons (pe_cD D_halved_from (hr.less (by omega)) rfl (pa_cons (pe_op op_add (pv 0) (pv 2)) (pa_cons (pe_op op_sub (pv 1) (pv 2)) pa_nil))) pa_nil))))))), ?_⟩)
    · obtain ⟨f, m, rfl, _⟩ := h; rfl
    · obtain ⟨f, m, rfl, h1, h2, q⟩ := h
      refine ⟨_, rfl, rfl, _, rfl, ite2 (fun c => ?_) (fun c => ?_)⟩
      · have c' : m = 1 := by have := V.int.inj (of_decide_eq_true c); omega
        subst c'
        exact ⟨_, rfl, q _ _ (Same.refl _) (by rw [hv_one (Nat.le_refl _)]; rfl)⟩
      · have c' : m ≠ 1 := fun z => c (by subst z; rfl)
        have hm : ¬ m ≤ 1 := by omega
        have el : ((m : Int) + 1) / 2 = ((m + 1) / 2 : Nat) := by omega
        refine ⟨_, rfl, _, _, rfl, rfl, _, _, rfl, rfl, ⟨by decide, by decide⟩, ?_⟩
        dsimp only
        rw [el]
        refine ⟨_, rfl, _, rfl, f, (m + 1) / 2, rfl, by omega, by omega, fun v1 H1 S1 t1 => ?_⟩
        refine ⟨_, rfl, _, rfl, _, _, rfl, rfl, _, rfl, _, rfl, _, _, rfl, rfl, f + (m + 1) / 2, m - (m + 1) / 2, ?_, by omega, by omega, fun v2 H2 S2 t2 => ⟨sz, fun a ha => ?_⟩⟩
        · show [V.int ((f : Int) + ((m + 1) / 2 : Nat)), V.int ((m : Int) - ((m + 1) / 2 : Nat))] = _
          rw [show (f : Int) + ((m + 1) / 2 : Nat) = ((f + (m + 1) / 2 : Nat) : Int) by omega, show (m : Int) - ((m + 1) / 2 : Nat) = ((m - (m + 1) / 2 : Nat) : Int) by omega] <;> rfl
        · have S3 := same_new ha (.tup [v1, v2])
          refine q _ _ (S1.trans (S2.trans S3)) ?_
          rw [hv_more hm]
          exact ⟨a, v1, v2, rfl, upd_same, (t1.same S2).same S3, t2.same S3⟩
theorem k_halved_from (D : Df K mg "halved_from" s_halved_from ["first", "many"]) : Dn P w K mg base 41 "halved_from" ["first", "many"] (spHf 40) := k_halved_from_rec B D  40
def spHal24 (K : PySem.W.Frag) (N : Addr) : Sp := fun vs H Q E => ∃ (v : V) (d : PyData) (p : Addr), vs = [v] ∧ Th K p H v d ∧ (isR d 1 40 = true → ∀ x H', Same H H' → Q x H') ∧ (isR d 1 40 = false → ∀ H', Same H H' → E (.ref N) none H')
theorem k_halved (D : Df K mg "halved" s_halved ["many"]) (D_want_many : Dx P w K mg base 4 "want_many" ["many"] (spWM24 K (cAt mg "NoNumber"))) (D_halved_from : Dn P w K mg base 41 "halved_from" ["first", "many"] (spHf 40)) : Dx P w K mg base 42 "halved" ["many"] (spHal24 K (cAt mg "NoNumber")) := by
  refine D.okX fun f fd F => okGX F sc_halved (fun vs H Q E h => ?_) (fun cdv A outer s H vs Q E hr h => ⟨_, (pss_cons (ps_expr (pe_cW D_want_many (hr.less (by decide)) (takes_of rfl rfl rfl rfl) rfl (pa_cons (pv 0) pa_nil)))
    (pss_one (ps_ret (pe_cD D_halved_from (hr.less (by decide)) rfl (pa_cons pe_int (pa_cons (pv 0) pa_nil)))))), ?_⟩)
  · obtain ⟨v, d, p, rfl, _⟩ := h; rfl
  · obtain ⟨v, d, p, rfl, hd, q1, q2⟩ := h
    try walk_at "go"
    refine ⟨fun e0 => ?_, fun e0 => q2 e0 H (Same.refl _)⟩
    obtain ⟨i, rfl, i1, i2⟩ := isR_inv e0
    obtain ⟨m, rfl⟩ : ∃ m : Nat, i = (m : Int) := ⟨i.toNat, by omega⟩
    cases hd.int_inv
    refine ⟨_, rfl, 0, m, rfl, by omega, by omega, fun v H1 S1 _ => q1 e0 v H1 S1⟩
theorem k_chained (D : Df K mg "chained" s_chained ["many"]) (D_want_many : Dx P w K mg base 4 "want_many" ["many"] (spWM24 K (cAt mg "NoNumber"))) : Dx P w K mg base 5 "chained" ["many"] (spHal24 K (cAt mg "NoNumber")) := by
  refine D.okX fun f fd F => okGX F sc_chained (fun vs H Q E h => ?_) (fun cdv A outer s H vs Q E hr h => ⟨_, (pss_cons (ps_expr (pe_cW D_want_many (hr.less (by decide)) (takes_of rfl rfl rfl rfl) rfl (pa_cons (pv 0) pa_nil)))
    (pss_cons (ps_set (i := 1) sc_chained.nd rfl (Or.inl rfl) pe_int)
    (pss_cons (ps_for (passes_of rfl) rfl (pi_range2 (by rfl) B.range_ (pa_cons pe_int (pa_cons (pv 0) pa_nil))) (pg_name (i := 2) sc_chained.nd rfl (Or.inl rfl))
      (pss_one (ps_set (i := 1) sc_chained.nd rfl (Or.inl rfl) (pe_tup (pa_cons (pv 1) (pa_cons (pv 2) pa_nil))))))
    (pss_one (ps_ret (pv 1)))))), ?_⟩)
  · obtain ⟨v, d, p, rfl, _⟩ := h; rfl
  · obtain ⟨v, d, p, rfl, hd, q1, q2⟩ := h
    try walk_at "go"
    refine ⟨fun e0 => ?_, fun e0 => q2 e0 H (Same.refl _)⟩
    obtain ⟨i, rfl, i1, i2⟩ := isR_inv e0
    obtain ⟨m, rfl⟩ : ∃ m : Nat, i = (m : Int) := ⟨i.toNat, by omega⟩
    cases hd.int_inv
    try walk_at "go"
    have e : ((m : Int) - 1).toNat = m - 1 := by omega
    rw [e]
    refine for_range (lo := 1) (n := m - 1) (fun i σ H1 => Kept (∃ (v : V) (w : Option V), σ = [some (.int m), some v, w] ∧ Same H H1)) ⟨_, none, rfl, Same.refl H⟩ ?_ ?_
    · rintro i σ H1 hi ⟨v, w, rfl, S1⟩
      try walk_at "go"
      intro A hA
      generalize eH2 : upd _ A _ = H2
      have SH2 := newS eH2 hA
      have oA := newO eH2
      exact ⟨⟨_, _, rfl, S1.trans SH2⟩⟩
    · rintro σ H1 ⟨v, w, rfl, S1⟩
      try walk_at "go"
      exact q1 e0 _ _ S1
/-! SPLIT -/
omit B in
theorem bd_of {K : PySem.W.Frag} {p : Addr} {H : Hp} {v : V} {ds : List PyData} (h : Th K p H v (.tuple ds)) (e : ds.all isWh = true) : ∃ (b : Addr) (bs : List Int), v = .ref b ∧ H b = some (.tup (bs.map V.int)) ∧ bs.length = ds.length := by
  obtain ⟨b, tr, rfl, rfl, hb, htr⟩ := h.tup_inv
  refine ⟨b, tr.map fun t => wv t.2, rfl, ?_, by rw [List.length_map, List.length_map]⟩
  rw [hb, List.map_map]
  congr 2
  refine List.map_congr_left fun t ht => ?_
  obtain ⟨i, hi⟩ := isWh_inv (List.all_eq_true.mp e _ (List.mem_map_of_mem ht))
  have th := htr t ht
  show t.1 = V.int (wv t.2)
  rw [hi] at th ⊢
  exact th.int_inv
omit B in
theorem as_of {K : PySem.W.Frag} {p : Addr} {H : Hp} {v : V} {d : PyData} {n : Nat} (h : Th K p H v d) (e : isAs n d = true) : ∃ (k : Addr) (xs : List V), v = .ref k ∧ H k = some (.tup xs) ∧ xs.length ≤ nsz d ∧ ∀ x ∈ xs, ∃ (a da : Addr) (h : Int) (b : Nat) (dd : Dd), x = .ref a ∧ H a = some (.tup [.int h, .int b, .ref da]) ∧ H da = some (.tup dd.vs) ∧ b < n := by
  cases ed : isTu d with
  | false => rw [isAs_no ed] at e; cases e
  | true =>
    obtain ⟨ds, rfl⟩ := isTu_inv ed
    obtain ⟨k, tr, rfl, rfl, hk, htr⟩ := h.tup_inv
    have e : (tr.map fun t => t.2).all (isAk n) = true := e
    refine ⟨k, tr.map fun t => t.1, rfl, hk, ?_, fun x hx => ?_⟩
    · have h1 := nszs_len (tr.map fun t => t.2)
      have h2 : nsz (.tuple (tr.map fun t => t.2)) = nszs (tr.map fun t => t.2) + 1 ∨ nszs (tr.map fun t => t.2) ≤ nsz (.tuple (tr.map fun t => t.2)) := .inr (by show _ ≤ nsz _; unfold nsz; omega)
      rw [List.length_map] at h1 ⊢
      omega
    · obtain ⟨t, ht, rfl⟩ := List.mem_map.mp hx
      exact ak_of (htr t ht) (List.all_eq_true.mp e _ (List.mem_map_of_mem ht))
omit B in
theorem refs_new {n : Nat} {v : V} : (List.replicate n [v]).flatten = List.replicate n v := by
  induction n with
  | zero => rfl
  | succ n ih => rw [List.replicate_succ, List.flatten_cons, ih] <;> rfl
def spWA24 (K : PySem.W.Frag) (C D : Addr) : Sp := fun vs H Q E => ∃ (bv v : V) (bd d : PyData) (p : Addr), vs = [bv, v] ∧ Th K p H bv bd ∧ Th K p H v d ∧ nsz d ≤ 2000000 ∧ (isBd bd = true → isAs (tlen bd) d = true → ∀ H', Same H H' → Q .non H') ∧ (isBd bd = false → ∀ H', Same H H' → E (.ref C) none H') ∧ (isBd bd = true → isAs (tlen bd) d = false → ∀ H', Same H H' → E (.ref D) none H')
theorem k_want_asks (D : Df K mg "want_asks" s_want_asks ["board", "asks"]) (D_are_asks : Dx P w K mg base 5 "are_asks" ["board", "thing"] (spAsT K (cAt mg "NoBoard"))) : Dx P w K mg base 6 "want_asks" ["board", "asks"] (spWA24 K (cAt mg "NoBoard") (cAt mg "NoAsk")) := by
  refine D.okX fun f fd F => okGX F sc_want_asks (fun vs H Q E h => ?_) (fun cdv A outer s H vs Q E hr h => ⟨_, (pss_one (ps_if (pt_not (pt_val (pe_cW D_are_asks (hr.less (by decide)) (takes_of rfl rfl rfl rfl) rfl (pa_cons (pv 0) (pa_cons (pv 1) pa_nil)))))
     (pss_one (ps_raise rfl (takes_of rfl rfl rfl rfl) (pmk_own PySem.F.excBase_ValueError B.NoAsk_.ex B.NoAsk_.mg_ B.NoAsk_.kp (raises_own B.NoAsk_.bs B.NoAsk_.tp) rfl)))
     pss_nil)), ?_⟩)
  · obtain ⟨bv, v, bd, d, p, rfl, _⟩ := h; rfl
  · obtain ⟨bv, v, bd, d, p, rfl, hb, hd, hs, q1, q2, q3⟩ := h
    try walk_at "go"
    refine ⟨fun n ds e1 e2 e3 H1 S1 => ?_, fun e H1 S1 => q2 e H1 S1⟩
    have en : tlen bd = n := by rw [e1]; exact e2
    rw [en] at q1 q3
    cases e4 : isAs n d with
    | true =>
      try walk_at "go"
      refine ifF rfl ?_
      try walk_at "go"
      exact q1 e3 e4 _ S1
    | false =>
      try walk_at "go"
      refine ifT rfl ?_
      exact q3 e3 e4 _ S1
def spPl24 (K : PySem.W.Frag) (C D : Addr) : Sp := fun vs H Q E => ∃ (bv v : V) (bd d : PyData) (p : Addr), vs = [bv, v] ∧ Th K p H bv bd ∧ Th K p H v d ∧ nsz d ≤ 2000000 ∧ (isBd bd = true → isAs (tlen bd) d = true → ∀ x H', Same H H' → Q x H') ∧ (isBd bd = false → ∀ H', Same H H' → E (.ref C) none H') ∧ (isBd bd = true → isAs (tlen bd) d = false → ∀ H', Same H H' → E (.ref D) none H')
theorem k_played (D : Df K mg "played" s_played ["board", "asks"]) (D_want_asks : Dx P w K mg base 6 "want_asks" ["board", "asks"] (spWA24 K (cAt mg "NoBoard") (cAt mg "NoAsk"))) (D_put_through : Dn P w K mg base 1 "put_through" ["deed", "value"] (spPut K)) : Dx P w K mg base 7 "played" ["board", "asks"] (spPl24 K (cAt mg "NoBoard") (cAt mg "NoAsk")) := by
  refine D.okX fun f fd F => okGX F sc_played (fun vs H Q E h => ?_) (fun cdv A outer s H vs Q E hr h => ⟨_, (pss_cons (ps_expr (pe_cW D_want_asks (hr.less (by decide)) (takes_of rfl rfl rfl rfl) rfl (pa_cons (pv 0) (pa_cons (pv 1) pa_nil))))
    (pss_cons (ps_set (i := 2) sc_played.nd rfl (Or.inl rfl) (pe_callTy (lstOfK (K := K)) (by rfl) B.list_ (by decide +kernel) (pa_cons (pv 0) pa_nil)))
    (pss_cons (ps_set (i := 3) sc_played.nd rfl (Or.inl rfl) (pe_lst pa_nil))
    (pss_cons (ps_for (passes_of rfl) rfl (kk (K := K) (F := fun K => iTup K _) (P := PI _ _ _) (pi_tup (pv 1))) (kk (K := K) (F := fun K => gTup K 3 _) (P := PG _ _) (pg_tup rfl (pgs_cons (pg_name (i := 4) sc_played.nd rfl (Or.inl rfl)) (pgs_cons (pg_name (i := 5) sc_played.nd rfl (Or.inl rfl)) (pgs_cons (pg_name (i := 6) sc_played.nd rfl (Or.inl rfl)) pgs_nil)))))
      (pss_cons (ps_expr (kk (K := K) (F := fun K => tBM K "list" _ _ _) (P := PE _ _) (pe_bm PySem.F.plainAttrs_list PySem.F.slot_list_append PySem.F.type_list_append mt_append (pv 3) (pa_cons (pe_ix (kk (K := K) (F := rIxL) (P := IxR _) ix_list) (pv 2) (pv 5) (fun _ _ => rfl)) pa_nil))))
      (pss_one (ps_asg (pe_cD D_put_through (hr.less (by decide)) rfl (pa_cons (pv 6) (pa_cons (pe_ix (kk (K := K) (F := rIxL) (P := IxR _) ix_list) (pv 2) (pv 5) (fun _ _ => rfl)) pa_nil))) (pg_sub (pv 2) (pv 5) set_list)))))
    (pss_one (ps_ret (pe_tup (pa_cons (pe_callTy (tupOfK (K := K)) (by rfl) B.tuple_ (by decide +kernel) (pa_cons (pv 3) pa_nil)) (pa_cons (pe_callTy (tupOfK (K := K)) (by rfl) B.tuple_ (by decide +kernel) (pa_cons (pv 2) pa_nil)) pa_nil))))))))), ?_⟩)
  · obtain ⟨bv, v, bd, d, p, rfl, _⟩ := h; rfl
  · obtain ⟨bv, v, bd, d, p, rfl, hb, hd, hs, q1, q2, q3⟩ := h
    try walk_at "go"
    refine ⟨fun e1 e2 H1 S1 => ?_, fun e H1 S1 => q2 e H1 S1, fun e f H1 S1 => q3 e f H1 S1⟩
    obtain ⟨ds, rfl, l1, l2, l3⟩ := isBd_tu e1
    obtain ⟨b, bs, rfl, hb1, lb⟩ := bd_of hb l3
    obtain ⟨k, xs, rfl, hk, lx, hxs⟩ := as_of hd e2
    have hb2 := S1 _ _ hb1
    have hk2 := S1 _ _ hk
    have hn : tlen (.tuple ds) = bs.length := lb.symm
    rw [hn] at hxs
    try walk_at "go"
    intro L hL
    generalize eH2 : upd _ L _ = H2
    have SH2 := newS eH2 hL
    have oL := newO eH2
    try walk_at "go"
    intro M hM
    generalize eH3 : upd _ M _ = H3
    have SH3 := newS eH3 hM
    have oM := newO eH3
    have nLM : L ≠ M := ne_of_none oL hM
    have oL := SH3 _ _ oL
    have S13 := SH2.trans SH3
    have hk3 := S13 _ _ hk2
    try walk_at "go"
    refine for_tup (K := K) (a := k) (xs := xs) (fun i σ H4 => Kept (∃ (vs as : List Int) (v4 v5 v6 : Option V), σ = [some (.ref b), some (.ref k), some (.ref L), some (.ref M), v4, v5, v6] ∧ Same H1 H4 ∧ H4 L = some (.lst (vs.map V.int)) ∧ vs.length = bs.length ∧ H4 M = some (.lst (as.map V.int)) ∧ as.length = i)) ⟨⟨bs, [], _, _, _, rfl, S13, oL, rfl, oM, rfl⟩⟩ (fun i σ H4 _ h => by obtain ⟨_, _, _, _, _, _, S, _⟩ := h.ex; exact SqT.of (S _ _ hk2)) ?_ ?_
    · rintro i x σ H4 hx ⟨vs, as, v4, v5, v6, rfl, S4, oL4, lv, oM4, la⟩
      have il := (List.getElem?_eq_some_iff.mp hx).1
      obtain ⟨a, da, h0, c, dd, rfl, ha, hda, hc⟩ := hxs x (List.mem_of_getElem? hx)
      have ha4 := S4 _ _ (S1 _ _ ha)
      have hda4 := S4 _ _ (S1 _ _ hda)
      have ls : (as.map V.int).length ≤ 3000000 := by rw [List.length_map]; omega
      have lm : (as.map V.int).length < sizeLine := Nat.lt_of_le_of_lt ls (by decide)
      have ix : atI (vs.map V.int) (c : Int) = some (V.int (vs.getD c 0)) := at_of (j := c) rfl (map_getD (by omega))
      try walk_at "go"
      generalize eH5 : upd H4 M (HO.lst (as.map V.int ++ [V.int (vs.getD c 0)])) = H5
      have BH5 : But M H4 H5 := eH5 ▸ But.upd
      have oH5 : H5 M = some (HO.lst (as.map V.int ++ [V.int (vs.getD c 0)])) := eH5 ▸ upd_same
      have oL5 := BH5 _ _ nLM oL4
      have hda5 := BH5 _ _ (ne_of hda4 oM4 (by intro z; cases z)) hda4
      have hdq : SqT K H5 da dd.vs := SqT.of hda5
      have ln5 : ixN (vs.map V.int).length (c : Int) = some c := ixn (by rw [List.length_map]; omega)
      try walk_at "go"
      refine ⟨⟨vs.set c (dd.ap (vs.getD c 0)), as ++ [vs.getD c 0], _, _, _, rfl, fun y o hy => ?_, by rw [upd_same, ← List.map_set] <;> rfl, by rw [List.length_set, lv], ?_, by rw [List.length_append, la] <;> rfl⟩⟩
      · have hL1 : H1 L = none := hL
        have hM1 : H1 M = none := SH2.free hM
        rw [upd_ne (ne_of_none hy hL1)]
        exact BH5 _ _ (ne_of_none hy hM1) (S4 _ _ hy)
      · rw [upd_ne nLM.symm, oH5, List.map_append] <;> rfl
    · rintro σ H4 ⟨vs, as, v4, v5, v6, rfl, S4, oL4, lv, oM4, la⟩
      try walk_at "go"
      intro T1 hT1
      generalize eH5 : upd _ T1 _ = H5
      have SH5 := newS eH5 hT1
      have oT1 := newO eH5
      have oL5 := SH5 _ _ oL4
      try walk_at "go"
      intro T2 hT2
      generalize eH6 : upd _ T2 _ = H6
      have SH6 := newS eH6 hT2
      have oT2 := newO eH6
      try walk_at "go"
      intro R hR
      generalize eH7 : upd _ R _ = H7
      have SH7 := newS eH7 hR
      have oR := newO eH7
      exact q1 e1 e2 _ _ (S1.trans (S4.trans (SH5.trans (SH6.trans SH7))))
theorem k_all_of (D : Df K mg "all_of" s_all_of ["board", "asks"]) (D_want_asks : Dx P w K mg base 6 "want_asks" ["board", "asks"] (spWA24 K (cAt mg "NoBoard") (cAt mg "NoAsk"))) (D_one_behind : Dn P w K mg base 2 "one_behind" ["one", "other"] (spBehind K)) : Dx P w K mg base 7 "all_of" ["board", "asks"] (spPl24 K (cAt mg "NoBoard") (cAt mg "NoAsk")) := by
  refine D.okX fun f fd F => okGX F sc_all_of (fun vs H Q E h => ?_) (fun cdv A outer s H vs Q E hr h => ⟨_, (pss_cons (ps_expr (pe_cW D_want_asks (hr.less (by decide)) (takes_of rfl rfl rfl rfl) rfl (pa_cons (pv 0) (pa_cons (pv 1) pa_nil))))
    (pss_cons (ps_set (i := 2) sc_all_of.nd rfl (Or.inl rfl) (pe_op op_rep (pe_lst (pa_cons (pe_glob (v := .ref B.LOOK_.choose) (by rfl) B.LOOK_.choose_spec.1 rfl) pa_nil)) (pe_callB (lenK (K := K)) (by rfl) B.len_ (by decide +kernel) (pa_cons (pv 0) pa_nil))))
    (pss_cons (ps_for (passes_of rfl) rfl (kk (K := K) (F := fun K => iTup K _) (P := PI _ _ _) (pi_tup (pv 1))) (kk (K := K) (F := fun K => gTup K 3 _) (P := PG _ _) (pg_tup rfl (pgs_cons (pg_name (i := 3) sc_all_of.nd rfl (Or.inl rfl)) (pgs_cons (pg_name (i := 4) sc_all_of.nd rfl (Or.inl rfl)) (pgs_cons (pg_name (i := 5) sc_all_of.nd rfl (Or.inl rfl)) pgs_nil)))))
      (pss_one (ps_asg (pe_cD D_one_behind (hr.less (by decide)) rfl (pa_cons (pe_ix (kk (K := K) (F := rIxL) (P := IxR _) ix_list) (pv 2) (pv 4) (fun _ _ => rfl)) (pa_cons (pv 5) pa_nil))) (pg_sub (pv 2) (pv 4) set_list))))
    (pss_one (ps_ret (pe_callTy (tupOfK (K := K)) (by rfl) B.tuple_ (by decide +kernel) (pa_cons (pv 2) pa_nil))))))), ?_⟩)
  · obtain ⟨bv, v, bd, d, p, rfl, _⟩ := h; rfl
  · obtain ⟨bv, v, bd, d, p, rfl, hb, hd, hs, q1, q2, q3⟩ := h
    try walk_at "go"
    refine ⟨fun e1 e2 H1 S1 => ?_, fun e H1 S1 => q2 e H1 S1, fun e f H1 S1 => q3 e f H1 S1⟩
    obtain ⟨ds, rfl, l1, l2, l3⟩ := isBd_tu e1
    obtain ⟨b, bs, rfl, hb1, lb⟩ := bd_of hb l3
    obtain ⟨k, xs, rfl, hk, lx, hxs⟩ := as_of hd e2
    have hb2 := S1 _ _ hb1
    have hk2 := S1 _ _ hk
    have hn : tlen (.tuple ds) = bs.length := lb.symm
    rw [hn] at hxs
    have lbm : (bs.map V.int).length ≤ 16 := by rw [List.length_map]; omega
    try walk_at "go"
    intro L0 hL0
    generalize eH2 : upd _ L0 _ = H2
    have SH2 := newS eH2 hL0
    have oL0 := newO eH2
    try walk_at "go"
    have e0 : (List.replicate ((((bs.map V.int).length : Nat) : Int)).toNat [V.ref B.LOOK_.choose]).flatten = (List.replicate bs.length (B.LOOK_.choose, look)).map fun x : Addr × Dd => V.ref x.1 := by
      rw [Int.toNat_natCast, List.length_map, List.map_replicate]
      exact refs_new
    rw [e0]
    intro L hL
    generalize eH3 : upd _ L _ = H3
    have SH3 := newS eH3 hL
    have oL := newO eH3
    have S13 := SH2.trans SH3
    have hk3 := S13 _ _ hk2
    have hL1 : H1 L = none := SH2.free hL
    try walk_at "go"
    refine for_tup (K := K) (a := k) (xs := xs) (fun i σ H4 => Kept (∃ (ps : List (Addr × Dd)) (v3 v4 v5 : Option V), σ = [some (.ref b), some (.ref k), some (.ref L), v3, v4, v5] ∧ Same H1 H4 ∧ H4 L = some (.lst (ps.map fun x => V.ref x.1)) ∧ ps.length = bs.length ∧ ∀ x ∈ ps, TupAt K H4 x.1 x.2.vs)) ⟨⟨_, _, _, _, rfl, S13, oL, List.length_replicate, fun x hx => by rw [(List.mem_replicate.mp hx).2]; exact .inr B.LOOK_.choose_spec.2⟩⟩ (fun i σ H4 _ h => by obtain ⟨_, _, _, _, _, S, _⟩ := h.ex; exact SqT.of (S _ _ hk2)) ?_ ?_
    · rintro i x σ H4 hx ⟨ps, v3, v4, v5, rfl, S4, oL4, lp, hps⟩
      obtain ⟨a, da, h0, c, dd, rfl, ha, hda, hc⟩ := hxs x (List.mem_of_getElem? hx)
      have ha4 := S4 _ _ (S1 _ _ ha)
      have hda4 : SqT K H4 da dd.vs := SqT.of (S4 _ _ (S1 _ _ hda))
      have hy := hps (ps[c]'(by omega)) (List.getElem_mem _)
      have ix : atI (ps.map fun x => V.ref x.1) (c : Int) = some (V.ref (ps[c]'(by omega)).1) := at_of (j := c) rfl (by rw [List.getElem?_map, List.getElem?_eq_getElem (by omega)] <;> rfl)
      have hyq := hy.sq
      try walk_at "go"
      intro z H5 S5 _ hz
      have oL5 := S5 _ _ oL4
      have ln5 : ixN (ps.map fun x => V.ref x.1).length (c : Int) = some c := ixn (by rw [List.length_map]; omega)
      try walk_at "go"
      refine ⟨⟨ps.set c (z, beh (ps[c]'(by omega)).2 dd), _, _, _, rfl, fun y o hy => ?_, by rw [upd_same, List.map_set] <;> rfl, by rw [List.length_set, lp], fun y hy => ?_⟩⟩
      · rw [upd_ne (ne_of_none hy hL1)]
        exact S5 _ _ (S4 _ _ hy)
      · rcases List.mem_or_eq_of_mem_set hy with h3 | h3
        · exact ((hps y h3).same S5).but But.upd oL5
        · subst h3
          exact TupAt.but But.upd oL5 (.inl hz)
    · rintro σ H4 ⟨ps, v3, v4, v5, rfl, S4, oL4, lp, hps⟩
      try walk_at "go"
      intro T1 hT1
      generalize eH5 : upd _ T1 _ = H5
      have SH5 := newS eH5 hT1
      have oT1 := newO eH5
      exact q1 e1 e2 _ _ (S1.trans (S4.trans SH5))
theorem k_ahead_of (D : Df K mg "ahead_of" s_ahead_of ["board", "asks"]) (D_want_asks : Dx P w K mg base 6 "want_asks" ["board", "asks"] (spWA24 K (cAt mg "NoBoard") (cAt mg "NoAsk"))) (D_one_behind : Dn P w K mg base 2 "one_behind" ["one", "other"] (spBehind K)) : Dx P w K mg base 7 "ahead_of" ["board", "asks"] (spPl24 K (cAt mg "NoBoard") (cAt mg "NoAsk")) := by
  refine D.okX fun f fd F => okGX F sc_ahead_of (fun vs H Q E h => ?_) (fun cdv A outer s H vs Q E hr h => ⟨_, (pss_cons (ps_expr (pe_cW D_want_asks (hr.less (by decide)) (takes_of rfl rfl rfl rfl) rfl (pa_cons (pv 0) (pa_cons (pv 1) pa_nil))))
    (pss_cons (ps_set (i := 2) sc_ahead_of.nd rfl (Or.inl rfl) (pe_op op_rep (pe_lst (pa_cons (pe_glob (v := .ref B.LOOK_.choose) (by rfl) B.LOOK_.choose_spec.1 rfl) pa_nil)) (pe_callB (lenK (K := K)) (by rfl) B.len_ (by decide +kernel) (pa_cons (pv 0) pa_nil))))
    (pss_cons (ps_set (i := 3) sc_ahead_of.nd rfl (Or.inl rfl) (pe_lst pa_nil))
    (pss_cons (ps_for (passes_of rfl) rfl (kk (K := K) (F := fun K => iTup K _) (P := PI _ _ _) (pi_tup (pv 1))) (kk (K := K) (F := fun K => gTup K 3 _) (P := PG _ _) (pg_tup rfl (pgs_cons (pg_name (i := 4) sc_ahead_of.nd rfl (Or.inl rfl)) (pgs_cons (pg_name (i := 5) sc_ahead_of.nd rfl (Or.inl rfl)) (pgs_cons (pg_name (i := 6) sc_ahead_of.nd rfl (Or.inl rfl)) pgs_nil)))))
      (pss_cons (ps_expr (kk (K := K) (F := fun K => tBM K "list" _ _ _) (P := PE _ _) (pe_bm PySem.F.plainAttrs_list PySem.F.slot_list_append PySem.F.type_list_append mt_append (pv 3) (pa_cons (pe_ix (kk (K := K) (F := rIxL) (P := IxR _) ix_list) (pv 2) (pv 5) (fun _ _ => rfl)) pa_nil))))
      (pss_one (ps_asg (pe_cD D_one_behind (hr.less (by decide)) rfl (pa_cons (pe_ix (kk (K := K) (F := rIxL) (P := IxR _) ix_list) (pv 2) (pv 5) (fun _ _ => rfl)) (pa_cons (pv 6) pa_nil))) (pg_sub (pv 2) (pv 5) set_list)))))
    (pss_one (ps_ret (pe_callTy (tupOfK (K := K)) (by rfl) B.tuple_ (by decide +kernel) (pa_cons (pv 3) pa_nil)))))))), ?_⟩)
  · obtain ⟨bv, v, bd, d, p, rfl, _⟩ := h; rfl
  · obtain ⟨bv, v, bd, d, p, rfl, hb, hd, hs, q1, q2, q3⟩ := h
    try walk_at "go"
    refine ⟨fun e1 e2 H1 S1 => ?_, fun e H1 S1 => q2 e H1 S1, fun e f H1 S1 => q3 e f H1 S1⟩
    obtain ⟨ds, rfl, l1, l2, l3⟩ := isBd_tu e1
    obtain ⟨b, bs, rfl, hb1, lb⟩ := bd_of hb l3
    obtain ⟨k, xs, rfl, hk, lx, hxs⟩ := as_of hd e2
    have hb2 := S1 _ _ hb1
    have hk2 := S1 _ _ hk
    have hn : tlen (.tuple ds) = bs.length := lb.symm
    rw [hn] at hxs
    have lbm : (bs.map V.int).length ≤ 16 := by rw [List.length_map]; omega
    try walk_at "go"
    intro L0 hL0
    generalize eH2 : upd _ L0 _ = H2
    have SH2 := newS eH2 hL0
    have oL0 := newO eH2
    try walk_at "go"
    have e0 : (List.replicate ((((bs.map V.int).length : Nat) : Int)).toNat [V.ref B.LOOK_.choose]).flatten = (List.replicate bs.length (B.LOOK_.choose, look)).map fun x : Addr × Dd => V.ref x.1 := by
      rw [Int.toNat_natCast, List.length_map, List.map_replicate]
      exact refs_new
    rw [e0]
    intro L hL
    generalize eH3 : upd _ L _ = H3
    have SH3 := newS eH3 hL
    have oL := newO eH3
    have hL1 : H1 L = none := SH2.free hL
    try walk_at "go"
    intro M hM
    generalize eH3b : upd _ M _ = H3b
    have SH3b := newS eH3b hM
    have oM := newO eH3b
    have S13 := SH2.trans (SH3.trans SH3b)
    have nLM : L ≠ M := ne_of_none oL hM
    have oL := SH3b _ _ oL
    have hM1 : H1 M = none := (SH2.trans SH3).free hM
    have hk3 := S13 _ _ hk2
    try walk_at "go"
    refine for_tup (K := K) (a := k) (xs := xs) (fun i σ H4 => Kept (∃ (ps : List (Addr × Dd)) (ms : List V) (v4 v5 v6 : Option V), σ = [some (.ref b), some (.ref k), some (.ref L), some (.ref M), v4, v5, v6] ∧ Same H1 H4 ∧ H4 L = some (.lst (ps.map fun x => V.ref x.1)) ∧ ps.length = bs.length ∧ H4 M = some (.lst ms) ∧ ms.length = i ∧ ∀ x ∈ ps, TupAt K H4 x.1 x.2.vs)) ⟨⟨_, [], _, _, _, rfl, S13, oL, List.length_replicate, oM, rfl, fun x hx => by rw [(List.mem_replicate.mp hx).2]; exact .inr B.LOOK_.choose_spec.2⟩⟩ (fun i σ H4 _ h => by obtain ⟨_, _, _, _, _, _, S, _⟩ := h.ex; exact SqT.of (S _ _ hk2)) ?_ ?_
    · rintro i x σ H4 hx ⟨ps, ms, v4, v5, v6, rfl, S4, oL4, lp, oM4, lms, hps⟩
      have il := (List.getElem?_eq_some_iff.mp hx).1
      obtain ⟨a, da, h0, c, dd, rfl, ha, hda, hc⟩ := hxs x (List.mem_of_getElem? hx)
      have ha4 := S4 _ _ (S1 _ _ ha)
      have hda4 : SqT K H4 da dd.vs := SqT.of (S4 _ _ (S1 _ _ hda))
      have hy := hps (ps[c]'(by omega)) (List.getElem_mem _)
      have ix : atI (ps.map fun x => V.ref x.1) (c : Int) = some (V.ref (ps[c]'(by omega)).1) := at_of (j := c) rfl (by rw [List.getElem?_map, List.getElem?_eq_getElem (by omega)] <;> rfl)
      have ls : ms.length ≤ 3000000 := by omega
      have lm : ms.length < sizeLine := Nat.lt_of_le_of_lt ls (by decide)
      try walk_at "go"
      generalize eH5 : upd H4 M (HO.lst (ms ++ [V.ref (ps[c]'(by omega)).1])) = H5
      have BH5 : But M H4 H5 := eH5 ▸ But.upd
      have oH5 : H5 M = some (HO.lst (ms ++ [V.ref (ps[c]'(by omega)).1])) := eH5 ▸ upd_same
      have oL5 := BH5 _ _ nLM oL4
      have hyq := (hy.but BH5 oM4).sq
      have hda5 : SqT K H5 da dd.vs := but_tup BH5 oM4 hda4
      try walk_at "go"
      intro z H6 S6 _ hz
      have oL6 := S6 _ _ oL5
      have ln5 : ixN (ps.map fun x => V.ref x.1).length (c : Int) = some c := ixn (by rw [List.length_map]; omega)
      try walk_at "go"
      refine ⟨⟨ps.set c (z, beh (ps[c]'(by omega)).2 dd), ms ++ [V.ref (ps[c]'(by omega)).1], _, _, _, rfl, fun y o hy => ?_, by rw [upd_same, List.map_set] <;> rfl, by rw [List.length_set, lp], by rw [upd_ne nLM.symm]; exact S6 _ _ oH5, by rw [List.length_append, lms] <;> rfl, fun y hy => ?_⟩⟩
      · rw [upd_ne (ne_of_none hy hL1)]
        exact S6 _ _ (BH5 _ _ (ne_of_none hy hM1) (S4 _ _ hy))
      · rcases List.mem_or_eq_of_mem_set hy with h3 | h3
        · exact (((hps y h3).but BH5 oM4).same S6).but But.upd oL6
        · subst h3
          exact TupAt.but But.upd oL6 (.inl hz)
    · rintro σ H4 ⟨ps, ms, v4, v5, v6, rfl, S4, oL4, lp, oM4, lms, hps⟩
      try walk_at "go"
      intro T1 hT1
      generalize eH5 : upd _ T1 _ = H5
      have SH5 := newS eH5 hT1
      have oT1 := newO eH5
      exact q1 e1 e2 _ _ (S1.trans (S4.trans SH5))
/-! SPLIT -/
/-! ### the law's own -/
def spPot2 (K : PySem.W.Frag) : Sp := fun vs H Q _ => ∃ (a : Addr) (ns : List Int) (k : Nat), vs = [.ref a, .int k] ∧ SqL K H a (ns.map V.int) ∧ k ≤ 60 ∧ ∀ p H', H p = none → Same H H' → PotAt H' p → Q (.ref p) H'
theorem k__law_pot (D : Df K mg "_law_pot" s__law_pot ["_law_script", "_law_k"]) : Dn P w K mg base 1 "_law_pot" ["_law_script", "_law_k"] (spPot2 K) := by
  refine D.ok fun f fd F => okG0 F sc__law_pot (fun vs H Q E h => ?_) (fun cdv A outer s H vs Q E hr h => ⟨_, (pss_cons (ps_set (i := 2) sc__law_pot.nd rfl (Or.inl rfl) (pe_lst (pa_cons pe_int (pa_cons pe_int (pa_cons pe_int (pa_cons pe_int (pa_cons pe_int (pa_cons pe_int (pa_cons pe_int (pa_cons pe_int pa_nil))))))))))
    (pss_cons (ps_set (i := 3) sc__law_pot.nd rfl (Or.inl rfl) pe_int)
    (C8.pss_cut (ps_if (pt_cmpR op_lt (pv 1) (pe_callB (lenK (K := K)) (by rfl) B.len_ (by decide +kernel) (pa_cons (pv 0) pa_nil)) (nomark _))
      (pss_one (ps_set (i := 3) sc__law_pot.nd rfl (Or.inl rfl) (pe_ix (kk (K := K) (F := rIxL) (P := IxR _) ix_list) (pv 0) (pv 1) (fun _ _ => rfl))))
      pss_nil)
    (pss_one (ps_ret (pe_lst (pa_cons (pe_callB (call_max2 rfl) (by rfl) B.max_ (by decide +kernel) (pa_cons pe_int (pa_cons (pe_op op_sub (pv 3) (pe_op op_pow pe_int pe_int)) pa_nil))) (pa_cons (pe_op op_mod (pe_op op_pow (pe_op op_add (pe_op op_add (pe_op op_mod (pv 3) (pe_ix (kk (K := K) (F := rIxL) (P := IxR _) ix_list) (pv 2) (pe_op op_mod (pv 1) pe_int) (fun _ _ => rfl))) (pe_op op_mulX pe_int (pv 1))) pe_int) pe_int) (pe_ix (kk (K := K) (F := rIxL) (P := IxR _) ix_list) (pv 2) (pe_op op_mod (pv 1) pe_int) (fun _ _ => rfl))) pa_nil)))))))), ?_⟩)
  · obtain ⟨a, ns, k, rfl, _⟩ := h; rfl
  · obtain ⟨a, ns, k, rfl, hs, hk, q⟩ := h
    refine ⟨sz, fun l hl => ?_⟩
    have S1 := same_new hl (.lst [.int 2147483629, .int 2147483587, .int 2147483579, .int 2147483563, .int 2147483549, .int 2147483543, .int 2147483497, .int 2147483489])
    refine ⟨fun σ H1 => ∃ c : Int, σ = [some (.ref a), some (.int k), some (.ref l), some (.int c)] ∧ H1 = upd H l (.lst [.int 2147483629, .int 2147483587, .int 2147483579, .int 2147483563, .int 2147483549, .int 2147483543, .int 2147483497, .int 2147483489]), ?_, ?_⟩
    · refine ⟨_, rfl, _, rfl, a, _, rfl, .inl (S1.seq hs), _, _, rfl, rfl, _, rfl, ite2 (fun c => ?_) (fun c => ?_)⟩
      · have c' : (k : Int) < ((ns.map V.int).length : Nat) := of_decide_eq_true c
        have hk2 : k < ns.length := by rw [List.length_map] at c'; omega
        exact ⟨_, rfl, _, rfl, a, _, _, _, rfl, rfl, S1.seq hs, at_of (j := k) rfl (by rw [List.getElem?_map, List.getElem?_eq_getElem hk2] <;> rfl), _, rfl, rfl⟩
      · exact ⟨_, rfl, rfl⟩
    · rintro _ _ ⟨c, rfl, rfl⟩
      obtain ⟨z, hz, hz0, hz1⟩ := menu8 (k % 8) (by omega)
      have hm1 := Int.emod_nonneg c (by omega : z ≠ 0)
      have hm2 := Int.emod_lt_of_pos c hz0
      refine ⟨_, rfl, _, _, rfl, rfl, ⟨by decide, by decide, by decide⟩, _, _, rfl, rfl, _, _, rfl, ?_⟩
      refine ⟨_, rfl, _, rfl, _, rfl, _, _, rfl, rfl, pj, l, _, _, _, rfl, rfl, SqL.of upd_same, at_of (j := k % 8) (by omega) hz, _, _, rfl, rfl, hz0, ?_⟩
      refine ⟨_, rfl, _, _, rfl, rfl, mulx 13 6 (by decide) (by omega), _, _, rfl, rfl, _, _, rfl, rfl, _, _, rfl, rfl, ⟨by decide, by decide, by omega⟩, ?_⟩
      refine ⟨_, rfl, _, rfl, _, _, rfl, rfl, pj, l, _, _, _, rfl, rfl, SqL.of upd_same, at_of (j := k % 8) (by omega) hz, _, _, rfl, rfl, hz0, sz, fun p hp => ?_⟩
      refine q p _ (S1.free hp) (S1.trans (same_new hp _)) ⟨_, _, upd_same, ?_, Int.emod_nonneg _ (by omega), ?_⟩
      · split <;> omega
      · have := Int.emod_lt_of_pos ((c % z + 7919 * k + 5) ^ (Int.toNat 3)) hz0
        exact Int.lt_of_lt_of_le this (Int.le_trans hz1 (by decide))
def spTake : Sp := fun vs H Q _ => ∃ (p : Addr) (m : Int), vs = [.ref p, .int m] ∧ PotAt H p ∧ 1 ≤ m ∧ m < 2 ^ 200 ∧ ∀ (d : Int) H', 0 ≤ d → d < m → But p H H' → PotAt H' p → Q (.int d) H'
theorem k__law_draw (D : Df K mg "_law_draw" s__law_draw ["_law_pot_here", "_law_many"]) : Dn P w K mg base 1 "_law_draw" ["_law_pot_here", "_law_many"] spTake := by
  refine D.ok fun f fd F => okG0 F sc__law_draw (fun vs H Q E h => ?_) (fun cdv A outer s H vs Q E hr h => ⟨_, (pss_cons (ps_if (pt_cmpR op_gt (pe_ix (kk (K := K) (F := rIxL) (P := IxR _) ix_list) (pv 0) pe_int (fun _ _ => rfl)) pe_int (nomark _))
      (pss_cons (ps_set (i := 2) sc__law_draw.nd rfl (Or.inl rfl) (pe_op op_mod (pe_ix (kk (K := K) (F := rIxL) (P := IxR _) ix_list) (pv 0) pe_int (fun _ _ => rfl)) (pv 1)))
      (pss_cons (ps_asg (pe_op op_fdivW (pe_ix (kk (K := K) (F := rIxL) (P := IxR _) ix_list) (pv 0) pe_int (fun _ _ => rfl)) (pv 1)) (pg_sub (pv 0) pe_int set_list))
      (pss_one (ps_ret (pv 2)))))
      pss_nil)
    (pss_cons (ps_asg (pe_op op_mod (pe_op op_add (pe_op op_mulX (pe_ix (kk (K := K) (F := rIxL) (P := IxR _) ix_list) (pv 0) pe_int (fun _ _ => rfl)) pe_int) pe_int) pe_int) (pg_sub (pv 0) pe_int set_list))
    (pss_one (ps_ret (pe_op op_mod (pe_op op_fdivW (pe_op op_mod (pe_op op_mulX (pe_ix (kk (K := K) (F := rIxL) (P := IxR _) ix_list) (pv 0) pe_int (fun _ _ => rfl)) (pe_ix (kk (K := K) (F := rIxL) (P := IxR _) ix_list) (pv 0) pe_int (fun _ _ => rfl))) pe_int) pe_int) (pv 1)))))), ?_⟩)
  · obtain ⟨p, m, rfl, _⟩ := h; rfl
  · obtain ⟨p, m, rfl, ⟨a, b, hp, ha, hb, hb2⟩, hm, hm2, q⟩ := h
    refine ⟨_, rfl, p, _, _, _, rfl, rfl, SqL.of hp, at_of (j := 0) rfl rfl, _, _, rfl, rfl, _, rfl, ite2 (fun c => ?_) (fun c => ?_)⟩
    · refine ⟨_, rfl, p, _, _, _, rfl, rfl, SqL.of hp, at_of (j := 0) rfl rfl, _, rfl, _, _, rfl, rfl, by omega, ?_⟩
      refine ⟨_, rfl, p, _, _, _, rfl, rfl, SqL.of hp, at_of (j := 0) rfl rfl, _, rfl, _, _, rfl, rfl, ⟨by omega, Nat.lt_trans (log_lt (n := 200) (by decide) (by omega)) (by decide)⟩, _, rfl, p, _, _, _, rfl, rfl, hp, rfl, _, rfl, ?_⟩
      have h1 := Int.emod_nonneg a (by omega : m ≠ 0)
      have h2 := Int.emod_lt_of_pos a (by omega : 0 < m)
      have h3 := Int.ediv_nonneg ha (by omega : 0 ≤ m)
      exact q _ _ h1 h2 But.upd ⟨_, _, upd_same, h3, hb, hb2⟩
    · have hm1 := Int.emod_nonneg (b * 39373 + 7919) (by decide : (2147483629 : Int) ≠ 0)
      have hm3 := Int.emod_lt_of_pos (b * 39373 + 7919) (by decide : (0 : Int) < 2147483629)
      refine ⟨_, rfl, p, _, _, _, rfl, rfl, SqL.of hp, at_of (j := 1) rfl rfl, _, _, rfl, rfl, mulx 40 16 (by omega) (by decide), _, _, rfl, rfl, _, _, rfl, rfl, pj, ?_⟩
      refine ⟨_, rfl, p, _, _, _, rfl, rfl, hp, rfl, ?_⟩
      refine ⟨_, rfl, p, _, _, _, rfl, rfl, SqL.of upd_same, at_of (j := 1) rfl rfl, _, rfl, p, _, _, _, rfl, rfl, SqL.of upd_same, at_of (j := 1) rfl rfl, _, _, rfl, rfl, mulx 31 31 (by omega) (by omega), ?_⟩
      refine ⟨_, _, rfl, rfl, pj, _, _, rfl, rfl, ⟨by decide, by decide⟩, _, rfl, _, _, rfl, rfl, hm, ?_⟩
      exact q _ _ (Int.emod_nonneg _ (by omega)) (Int.emod_lt_of_pos _ (by omega)) But.upd ⟨_, _, upd_same, ha, hm1, by omega⟩
def spNumber : Sp := fun vs H Q _ => ∃ (p : Addr), vs = [.ref p] ∧ PotAt H p ∧ ∀ (n : Int) H', -(10 ^ 30) ≤ n → n ≤ 10 ^ 30 → But p H H' → PotAt H' p → Q (.int n) H'
theorem k__law_number (D : Df K mg "_law_number" s__law_number ["_law_pot_here"]) (D__law_draw : Dn P w K mg base 1 "_law_draw" ["_law_pot_here", "_law_many"] spTake) : Dn P w K mg base 2 "_law_number" ["_law_pot_here"] spNumber := by
  refine D.ok fun f fd F => okG0 F sc__law_number (fun vs H Q E h => ?_) (fun cdv A outer s H vs Q E hr h => ⟨_, (pss_cons (ps_set (i := 1) sc__law_number.nd rfl (Or.inl rfl) (pe_cD D__law_draw (hr.less (by decide)) rfl (pa_cons (pv 0) (pa_cons pe_int pa_nil))))
    (pss_cons (ps_if (pt_cmpR op_eq (pv 1) pe_int (nomark _))
      (pss_cons (ps_set (i := 2) sc__law_number.nd rfl (Or.inl rfl) pe_int)
      (pss_cons (ps_for PassesOwn.never rfl (pi_range1 (by rfl) B.range_ (pa_cons pe_int pa_nil)) (pg_name (i := 3) sc__law_number.nd rfl (Or.inl rfl))
        (pss_one (ps_set (i := 2) sc__law_number.nd rfl (Or.inl rfl) (pe_op op_add (pe_op op_mulX (pv 2) (pe_op op_pow pe_int pe_int)) (pe_cD D__law_draw (hr.less (by decide)) rfl (pa_cons (pv 0) (pa_cons (pe_op op_pow pe_int pe_int) pa_nil)))))))
      (pss_one (ps_ret (pe_op op_mulX (pe_op op_mod (pv 2) (pe_op op_sub (pe_op op_pow pe_int pe_int) pe_int)) (pe_op op_sub pe_int (pe_op op_mulX pe_int (pe_cD D__law_draw (hr.less (by decide)) rfl (pa_cons (pv 0) (pa_cons pe_int pa_nil))))))))))
      pss_nil)
    (pss_one (ps_ret (pe_op op_sub (pe_cD D__law_draw (hr.less (by decide)) rfl (pa_cons (pv 0) (pa_cons (pe_ix (kk (K := K) (F := rIxL) (P := IxR _) ix_list) (pe_lst (pa_cons pe_int (pa_cons pe_int (pa_cons pe_int pa_nil)))) (pe_op op_sub (pv 1) pe_int) (fun _ _ => rfl)) pa_nil))) (pe_ix (kk (K := K) (F := rIxL) (P := IxR _) ix_list) (pe_lst (pa_cons pe_int (pa_cons pe_int (pa_cons pe_int pa_nil)))) (pe_op op_sub (pv 1) pe_int) (fun _ _ => rfl))))))), ?_⟩)
  · obtain ⟨p, rfl, _⟩ := h; rfl
  · obtain ⟨p, rfl, hp, q⟩ := h
    refine ⟨_, rfl, p, 4, rfl, hp, by decide, by decide, fun d H1 d0 d6 b1 p1 => ?_⟩
    refine ⟨_, rfl, rfl, _, rfl, ite2 (fun c => ?_) (fun c => ?_)⟩
    · refine ⟨_, rfl, by decide, by decide, ?_⟩
      refine for_range (lo := 0) (n := 5) (fun i σ H2 => ∃ (f : Int) (v : Option V), σ = [some (.ref p), some (.int d), some (.int f), v] ∧ But p H H2 ∧ PotAt H2 p ∧ 0 ≤ f ∧ f < 10 ^ (6 * i)) ⟨0, none, rfl, b1, p1, by decide, by decide⟩ ?_ ?_
      · rintro i σ H2 hi ⟨f, v, rfl, b2, p2, f0, f1⟩
        have f2 : f < 10 ^ 24 := Int.lt_of_lt_of_le f1 ((by decide : ∀ i, i < 5 → (10 : Int) ^ (6 * i) ≤ 10 ^ 24) i hi)
        refine ⟨_, rfl, _, _, rfl, rfl, ⟨by decide, by decide, by decide⟩, _, _, rfl, rfl, mulx 90 20 (by omega) (by decide), ?_⟩
        refine ⟨_, rfl, _, _, rfl, rfl, ⟨by decide, by decide, by decide⟩, p, _, rfl, p2, by decide, by decide, fun e H3 e0 e1 b3 p3 => ⟨_, _, rfl, rfl, ?_⟩⟩
        refine ⟨_, _, rfl, b2.trans b3, p3, ?_, ?_⟩
        · show 0 ≤ f * 10 ^ 6 + e; omega
        · show f * 10 ^ 6 + e < 10 ^ (6 * (i + 1))
          have e1' : e < 10 ^ 6 := e1
          have : (10 : Int) ^ (6 * (i + 1)) = 10 ^ (6 * i) * 10 ^ 6 := by rw [Nat.mul_add, Int.pow_add]
          rw [this]
          omega
      · rintro σ H2 ⟨f, v, rfl, b2, p2, f0, f1⟩
        refine ⟨_, rfl, _, _, rfl, rfl, ⟨by decide, by decide, by decide⟩, _, _, rfl, rfl, _, _, rfl, rfl, pj, ?_⟩
        have g1 := Int.emod_nonneg f (by decide : (10 ^ Int.toNat 30 - 20 : Int) ≠ 0)
        have g2 := Int.emod_lt_of_pos f (by decide : (0 : Int) < 10 ^ Int.toNat 30 - 20)
        have g3 : (10 ^ Int.toNat 30 - 20 : Int) ≤ 10 ^ 30 := by decide
        refine ⟨_, rfl, p, 2, rfl, p2, by decide, by decide, fun c H3 c0 c2 b3 p3 => ⟨_, _, rfl, rfl, mulx 2 2 (by decide) (by omega), _, _, rfl, rfl, _, _, rfl, rfl, mulx 100 2 (by omega) (by omega), ?_⟩⟩
        have : c = 0 ∨ c = 1 := by omega
        refine q _ _ ?_ ?_ (b2.trans b3) p3
        · rcases this with rfl | rfl <;> omega
        · rcases this with rfl | rfl <;> omega
    · have dn : d ≠ 0 := fun z => by subst z; exact c rfl
      obtain ⟨j, rfl⟩ : ∃ j : Nat, d = (j : Int) + 1 := ⟨(d - 1).toNat, by omega⟩
      obtain ⟨z, hz, z1⟩ := at3 (x0 := 3) (x1 := 19) (x2 := 199) j (by omega)
      obtain ⟨y, hy, y1⟩ := at3 (x0 := 1) (x1 := 9) (x2 := 99) j (by omega)
      refine ⟨_, rfl, sz, fun l hl => ⟨_, rfl, _, _, rfl, rfl, l, _, _, _, rfl, rfl, SqL.of upd_same, at_of (j := j) (by omega) hz, ?_⟩⟩
      refine ⟨p, z, rfl, p1.same (same_new hl _), by omega, Int.lt_of_le_of_lt (b := 199) (by omega) (by decide), fun e H2 e0 e1 b2 p2 => ?_⟩
      refine ⟨sz, fun m hm => ⟨_, rfl, _, _, rfl, rfl, m, _, _, _, rfl, rfl, SqL.of upd_same, at_of (j := j) (by omega) hy, _, _, rfl, rfl, ?_⟩⟩
      exact q _ _ (by omega) (by omega) (b1.trans ((same_but (same_new hl _)).trans (b2.trans (same_but (same_new hm _))))) (p2.same (same_new hm _))
def spDeed : Sp := fun vs H Q _ => ∃ (p : Addr), vs = [.ref p] ∧ PotAt H p ∧ ∀ (a : Addr) (d : Dd) H', But p H H' → PotAt H' p → H a = none → H' a = some (.tup d.vs) → d.In (10 ^ 31) → d.Ok → Q (.ref a) H'
theorem k__law_deed (D : Df K mg "_law_deed" s__law_deed ["_law_pot_here"]) (D__law_draw : Dn P w K mg base 1 "_law_draw" ["_law_pot_here", "_law_many"] spTake) (D__law_number : Dn P w K mg base 2 "_law_number" ["_law_pot_here"] spNumber) : Dn P w K mg base 3 "_law_deed" ["_law_pot_here"] spDeed := by
  refine D.ok fun f fd F => okG0 F sc__law_deed (fun vs H Q E h => ?_) (fun cdv A outer s H vs Q E hr h => ⟨_, (pss_cons (ps_set (i := 1) sc__law_deed.nd rfl (Or.inl rfl) (pe_cD D__law_draw (hr.less (by decide)) rfl (pa_cons (pv 0) (pa_cons pe_int pa_nil))))
    (pss_cons (ps_set (i := 2) sc__law_deed.nd rfl (Or.inl rfl) (pe_cD D__law_number (hr.less (by decide)) rfl (pa_cons (pv 0) pa_nil)))
    (pss_cons (ps_set (i := 3) sc__law_deed.nd rfl (Or.inl rfl) (pe_cD D__law_number (hr.less (by decide)) rfl (pa_cons (pv 0) pa_nil)))
    (pss_cons (ps_set (i := 4) sc__law_deed.nd rfl (Or.inl rfl) (pe_cD D__law_number (hr.less (by decide)) rfl (pa_cons (pv 0) pa_nil)))
    (pss_cons (ps_if (pt_cmpR op_lt (pv 1) pe_int (nomark _))
      (pss_one (ps_ret (pe_tup (pa_cons (pe_op op_mulX (pv 2) (pv 1)) (pa_cons pe_non (pa_cons pe_non pa_nil))))))
      pss_nil)
    (pss_cons (ps_if (PW.pt (pw_or (pt_cmpR op_eq (pv 1) pe_int (nomark _)) (pw_or1 (pt_cmpR op_eq (pv 3) (pv 4) (nomark _)))))
      (pss_one (ps_ret (pe_tup (pa_cons pe_int (pa_cons (pv 3) (pa_cons (pv 3) pa_nil))))))
      pss_nil)
    (pss_cons (ps_if (pt_cmpR op_eq (pv 1) pe_int (nomark _))
      (pss_one (ps_ret (pe_tup (pa_cons (pv 2) (pa_cons (pv 3) (pa_cons pe_non pa_nil))))))
      pss_nil)
    (pss_cons (ps_if (pt_cmpR op_eq (pv 1) pe_int (nomark _))
      (pss_one (ps_ret (pe_tup (pa_cons (pv 2) (pa_cons pe_non (pa_cons (pv 3) pa_nil))))))
      pss_nil)
    (pss_one (ps_ret (pe_tup (pa_cons (pv 2) (pa_cons (pe_callB (call_min2 rfl) (by rfl) B.min_ (by decide +kernel) (pa_cons (pv 3) (pa_cons (pv 4) pa_nil))) (pa_cons (pe_callB (call_max2 rfl) (by rfl) B.max_ (by decide +kernel) (pa_cons (pv 3) (pa_cons (pv 4) pa_nil))) pa_nil)))))))))))))), ?_⟩)
  · obtain ⟨p, rfl, _⟩ := h; rfl
  · obtain ⟨p, rfl, hp, q⟩ := h
    refine ⟨_, rfl, p, 6, rfl, hp, by decide, by decide, fun road H1 d0 d7 b1 p1 => ?_⟩
    refine ⟨_, rfl, p, rfl, p1, fun n H2 n0 n1 b2 p2 => ⟨_, rfl, p, rfl, p2, fun one H3 o0 o1 b3 p3 => ⟨_, rfl, p, rfl, p3, fun other H4 r0 r1 b4 p4 => ?_⟩⟩⟩
    have b14 : But p H H4 := b1.trans (b2.trans (b3.trans b4))
    have fin : ∀ (d : Dd) (a : Addr), H4 a = none → d.In (10 ^ 31) → d.Ok → Q (.ref a) (upd H4 a (.tup d.vs)) := fun d a ha hi ho =>
      q a d _ (b14.trans (same_but (same_new ha _))) (p4.same (same_new ha _)) (b14.free (pot_ne p4 ha) ha) upd_same hi ho
    refine ⟨_, rfl, _, _, rfl, rfl, _, rfl, ite2 (fun c => ?_) (fun c => ?_)⟩
    · have c' : road < 2 := of_decide_eq_true c
      refine ⟨_, rfl, _, rfl, _, _, rfl, rfl, mulx 100 2 (by omega) (by omega), sz, fun a ha => fin ⟨_, none, none⟩ a ha (in_mk ?_ ?_ in_none in_none) (fun _ _ h => nomatch h)⟩
      · have : road = 0 ∨ road = 1 := by omega
        rcases this with rfl | rfl <;> omega
      · have : road = 0 ∨ road = 1 := by omega
        rcases this with rfl | rfl <;> omega
    have mm : (∃ y, -(10 ^ 31) ≤ y ∧ y ≤ 10 ^ 31 ∧ y = one) := ⟨one, by omega, by omega, rfl⟩
    by_cases c2 : road = 2
    · subst c2
      refine ⟨_, rfl, rfl, _, rfl, iteT (iteT ⟨_, rfl, _, rfl, sz, fun a ha => fin ⟨0, some one, some one⟩ a ha (in_mk (by decide) (by decide) (in_some (by omega) (by omega)) (in_some (by omega) (by omega))) fun l h e1 e2 => ?_⟩)⟩
      cases e1; cases e2
      exact .inr ⟨rfl, rfl⟩
    refine ⟨_, rfl, rfl, _, rfl, ifF (decide_eq_false fun z => c2 (V.int.inj z)) ⟨_, rfl, _, rfl, rfl, _, rfl, ite2 (fun c3 => ?_) (fun c3 => ?_)⟩⟩
    · refine ⟨_, rfl, _, rfl, sz, fun a ha => fin ⟨0, some one, some one⟩ a ha (in_mk (by decide) (by decide) (in_some (by omega) (by omega)) (in_some (by omega) (by omega))) fun l h e1 e2 => ?_⟩
      cases e1; cases e2
      exact .inr ⟨rfl, rfl⟩
    have c3' : one ≠ other := fun z => c3 (decide_eq_true (congrArg V.int z))
    refine ⟨_, rfl, rfl, _, rfl, ite2 (fun c4 => ?_) (fun c4 => ?_)⟩
    · exact ⟨_, rfl, _, rfl, sz, fun a ha => fin ⟨n, some one, none⟩ a ha (in_mk (by omega) (by omega) (in_some (by omega) (by omega)) in_none) (fun _ _ _ h => nomatch h)⟩
    refine ⟨_, rfl, rfl, _, rfl, ite2 (fun c5 => ?_) (fun c5 => ?_)⟩
    · exact ⟨_, rfl, _, rfl, sz, fun a ha => fin ⟨n, none, some one⟩ a ha (in_mk (by omega) (by omega) in_none (in_some (by omega) (by omega))) (fun _ _ h => nomatch h)⟩
    refine ⟨_, rfl, _, rfl, _, rfl, _, _, rfl, _, rfl, _, rfl, _, _, rfl, sz, fun a ha => fin ⟨n, some _, some _⟩ a ha (in_mk (by omega) (by omega) (in_some ?_ ?_) (in_some ?_ ?_)) ?_⟩
    · split <;> omega
    · split <;> omega
    · split <;> omega
    · split <;> omega
    · intro l h e1 e2
      cases e1; cases e2
      left
      split <;> split <;> omega
def spBoard : Sp := fun vs H Q _ => ∃ (p : Addr), vs = [.ref p] ∧ PotAt H p ∧ ∀ (b : Addr) (bs : List Int) H', But p H H' → PotAt H' p → H b = none → BoardAt H' b bs → Wi (10 ^ 30) bs → Q (.ref b) H'
theorem k__law_board (D : Df K mg "_law_board" s__law_board ["_law_pot_here"]) (D__law_draw : Dn P w K mg base 1 "_law_draw" ["_law_pot_here", "_law_many"] spTake) (D__law_number : Dn P w K mg base 2 "_law_number" ["_law_pot_here"] spNumber) : Dn P w K mg base 3 "_law_board" ["_law_pot_here"] spBoard := by
  refine D.ok fun f fd F => okG0 F sc__law_board (fun vs H Q E h => ?_) (fun cdv A outer s H vs Q E hr h => ⟨_, (pss_one (ps_ret (pe_callTy (tupOfK (K := K)) (by rfl) B.tuple_ (by decide +kernel) (pa_cons (pe_lc (own := [("_law_k", 1)]) (g := gName 1) (tt := tYes) rfl sc__law_board.nd (pi_range1 (by rfl) B.range_ (pa_cons (pe_op op_add pe_int (pe_cD D__law_draw (hr.less (by decide)) rfl (pa_cons (pv 0) (pa_cons pe_int pa_nil)))) pa_nil)) (blkOk_by (own := [("_law_k", 1)]) (N := ["_law_pot_here", "_law_k"]) (sc := defScope s__law_board) (by decide +kernel)) (fun _ _ _ _ _ => (pg_name (i := 1) sc__law_board.nd rfl (Or.inl rfl))) (fun _ _ _ _ _ => pts_nil) (fun _ _ _ _ _ => (pe_cD D__law_number (hr.less (by decide)) rfl (pa_cons (pv 0) pa_nil)))) pa_nil)))), ?_⟩)
  · obtain ⟨p, rfl, _⟩ := h; rfl
  · obtain ⟨p, rfl, hp, q⟩ := h
    refine ⟨_, rfl, p, 16, rfl, hp, by decide, by decide, fun m H1 m0 m1 b1 p1 => ⟨_, _, rfl, rfl, _, rfl, by omega, by omega, fun D hD => ?_⟩⟩
    have np := pot_ne p1 hD
    refine lc_range (lo := 0) (n := (1 + m).toNat) (fun i H2 => ∃ bs : List Int, But p H1 H2 ∧ PotAt H2 p ∧ H2 D = some (.lst (bs.map V.int)) ∧ bs.length = i ∧ Wi (10 ^ 30) bs) ⟨[], same_but (same_new hD _), p1.same (same_new hD _), upd_same, rfl, fun x hx => nomatch hx⟩ ?_ ?_
    · rintro i H2 hi ⟨bs, b2, p2, hD2, hl, hw⟩
      refine ⟨rfl, ?_⟩
      refine ⟨_, rfl, p, rfl, p2, fun x H3 x0 x1 b3 p3 => ?_⟩
      have hD3 := b3 _ _ np hD2
      refine ⟨_, hD3, small1000 (by rw [List.length_map]; omega), bs ++ [x], but_upd hD (b2.trans b3), p3.upd np.symm, by rw [upd_same, List.map_append] <;> rfl, by rw [List.length_append, hl] <;> rfl, ?_⟩
      exact hw.snoc x0 x1
    · rintro H2 ⟨bs, b2, p2, hD2, hl, hw⟩
      refine ⟨D, _, rfl, .inl ⟨SqL.of hD2, fun t ht => ?_⟩⟩
      have S := same_new ht (.tup (bs.map V.int))
      have B := b1.trans (b2.trans (same_but S))
      exact q t bs _ B (p2.same S) ((b1.trans b2).free (pot_ne p2 ht) ht) ⟨upd_same, by omega, by omega⟩ hw
def spAsks : Sp := fun vs H Q _ => ∃ (p b : Addr) (bs : List Int) (mx : Int), vs = [.ref p, .ref b, .int mx] ∧ 0 ≤ mx ∧ mx ≤ 40 ∧ PotAt H p ∧ BoardAt H b bs ∧ ∀ (k : Addr) (as : List Ak) H', But p H H' → PotAt H' p → H k = none → AsksAt H' k as bs.length → Q (.ref k) H'
theorem k__law_asks (D : Df K mg "_law_asks" s__law_asks ["_law_pot_here", "_law_board_here", "_law_most"]) (D__law_draw : Dn P w K mg base 1 "_law_draw" ["_law_pot_here", "_law_many"] spTake) (D__law_deed : Dn P w K mg base 3 "_law_deed" ["_law_pot_here"] spDeed) : Dn P w K mg base 4 "_law_asks" ["_law_pot_here", "_law_board_here", "_law_most"] spAsks := by
  refine D.ok fun f fd F => okG0 F sc__law_asks (fun vs H Q E h => ?_) (fun cdv A outer s H vs Q E hr h => ⟨_, (pss_cons (ps_set (i := 3) sc__law_asks.nd rfl (Or.inl rfl) (pe_cD D__law_draw (hr.less (by decide)) rfl (pa_cons (pv 0) (pa_cons pe_int pa_nil))))
    (C8.pss_cut (ps_if (pt_cmpR op_eq (pv 3) pe_int (nomark _))
      (pss_one (ps_set (i := 3) sc__law_asks.nd rfl (Or.inl rfl) (pe_cD D__law_draw (hr.less (by decide)) rfl (pa_cons (pv 0) (pa_cons (pe_op op_add (pv 2) pe_int) pa_nil)))))
      pss_nil)
    (pss_cons (ps_set (i := 4) sc__law_asks.nd rfl (Or.inl rfl) (pe_op op_add pe_int (pe_cD D__law_draw (hr.less (by decide)) rfl (pa_cons (pv 0) (pa_cons (pe_callB (lenK (K := K)) (by rfl) B.len_ (by decide +kernel) (pa_cons (pv 1) pa_nil)) pa_nil)))))
    (pss_cons (ps_set (i := 5) sc__law_asks.nd rfl (Or.inl rfl) (pe_lst pa_nil))
    (pss_cons (ps_for PassesOwn.never rfl (pi_range1 (by rfl) B.range_ (pa_cons (pv 3) pa_nil)) (pg_name (i := 6) sc__law_asks.nd rfl (Or.inl rfl))
      (pss_one (ps_expr (kk (K := K) (F := fun K => tBM K "list" _ _ _) (P := PE _ _) (pe_bm PySem.F.plainAttrs_list PySem.F.slot_list_append PySem.F.type_list_append mt_append (pv 5) (pa_cons (pe_tup (pa_cons (pe_cD D__law_draw (hr.less (by decide)) rfl (pa_cons (pv 0) (pa_cons pe_int pa_nil))) (pa_cons (pe_cD D__law_draw (hr.less (by decide)) rfl (pa_cons (pv 0) (pa_cons (pv 4) pa_nil))) (pa_cons (pe_cD D__law_deed (hr.less (by decide)) rfl (pa_cons (pv 0) pa_nil)) pa_nil)))) pa_nil))))))
    (pss_one (ps_ret (pe_callTy (tupOfK (K := K)) (by rfl) B.tuple_ (by decide +kernel) (pa_cons (pv 5) pa_nil))))))))), ?_⟩)
  · obtain ⟨p, b, bs, mx, rfl, _⟩ := h; rfl
  · obtain ⟨p, b, bs, mx, rfl, mx0, mx40, hp, hb, q⟩ := h
    have nb : b ≠ p := fun z => by obtain ⟨_, _, h1, _⟩ := hp; have h2 := hb.1; rw [z, h1] at h2; cases h2
    refine ⟨_, rfl, p, 8, rfl, hp, by decide, by decide, fun m H1 m0 m1 b1 p1 => ?_⟩
    refine ⟨fun σ H2 => ∃ m : Int, σ = [some (.ref p), some (.ref b), some (.int mx), some (.int m), none, none, none] ∧ But p H H2 ∧ PotAt H2 p ∧ 0 ≤ m ∧ m ≤ 40, ?_, ?_⟩
    · refine ⟨_, rfl, rfl, _, rfl, ite2 (fun c => ?_) (fun c => ?_)⟩
      · exact ⟨_, rfl, _, rfl, _, _, rfl, rfl, p, _, rfl, p1, by omega, Int.lt_of_le_of_lt (b := 41) (by omega) (by decide), fun e H2 e0 e1 b2 p2 => ⟨e, rfl, b1.trans b2, p2, e0, by omega⟩⟩
      · exact ⟨m, rfl, b1, p1, m0, by omega⟩
    clear b1 p1 m0 m1
    rintro _ H2 ⟨m, rfl, b2, p2, m0, m1⟩
    have hb2 : BoardAt H2 b bs := ⟨b2 _ _ nb hb.1, hb.2⟩
    refine ⟨_, rfl, _, rfl, b, _, rfl, .inr (SqT.of hb2.1), p, _, rfl, p2, by rw [List.length_map]; have := hb.2; omega, Int.lt_of_le_of_lt (b := 16) (by rw [List.length_map]; have := hb.2; omega) (by decide), fun near H3 n0 n1 b3 p3 => ⟨_, _, rfl, rfl, ?_⟩⟩
    rw [List.length_map] at n1
    refine ⟨sz, fun L hL => ?_⟩
    have npL := pot_ne p3 hL
    have b13 := b2.trans b3
    refine ⟨_, rfl, _, rfl, by omega, by omega, ?_⟩
    refine for_range (lo := 0) (n := m.toNat) (fun i σ H4 => ∃ (as : List Ak) (v : Option V), σ = [some (.ref p), some (.ref b), some (.int mx), some (.int m), some (.int (1 + near)), some (.ref L), v] ∧ But p H3 H4 ∧ PotAt H4 p ∧ H4 L = some (.lst (as.map fun x => .ref x.a)) ∧ as.length = i ∧ ∀ x ∈ as, x.at_ H4 bs.length)
      ⟨[], none, rfl, same_but (same_new hL _), p3.same (same_new hL _), upd_same, rfl, fun x hx => nomatch hx⟩ ?_ ?_
    · rintro i σ H4 hi ⟨as, v, rfl, b4, p4, hL4, hl, hw⟩
      have hL3 : ∀ {H' : Hp}, But p H4 H' → H' L = some (.lst (as.map fun x => .ref x.a)) := fun b => b _ _ npL hL4
      refine ⟨_, rfl, .inl ⟨rfl, _, SqL.of hL4⟩, _, rfl, p, 16, rfl, p4, by decide, by decide, fun hand H5 h0 h1 b5 p5 => ?_⟩
      refine ⟨_, rfl, _, rfl, p, _, rfl, p5, by omega, Int.lt_of_le_of_lt (b := 16) (by have := hb2.2; omega) (by decide), fun box H6 x0 x1 b6 p6 => ?_⟩
      refine ⟨_, rfl, p, rfl, p6, fun da d H7 b7 p7 nda hda hdi hdo => ⟨sz, fun a ha => ?_⟩⟩
      have B7 := b5.trans (b6.trans b7)
      obtain ⟨bx, rfl⟩ : ∃ n : Nat, box = (n : Int) := ⟨box.toNat, by omega⟩
      have S8 := same_new ha (.tup [.int hand, .int bx, .ref da])
      have nLa : L ≠ a := ne_of_none (hL3 B7) ha
      have nLda : da ≠ L := fun z => by rw [z] at hda; rw [hL3 B7] at hda; cases hda
      obtain ⟨_, _, hp4, _⟩ := p4
      refine ⟨L, _, _, rfl, rfl, S8 _ _ (hL3 B7), small1000 (by rw [List.length_map]; omega), as ++ [⟨a, hand, bx, da, d⟩], _, rfl, but_upd hL (b4.trans (B7.trans (same_but S8))), (p7.same S8).upd npL.symm, by rw [upd_same, List.map_append] <;> rfl, by rw [List.length_append, hl] <;> rfl, fun x hx => ?_⟩
      rcases List.mem_append.mp hx with h3 | h3
      · exact (((hw x h3).but B7 hp4).same S8).but But.upd (S8 _ _ (hL3 B7))
      · have := List.mem_singleton.mp h3
        subst this
        exact ⟨by rw [upd_ne nLa.symm]; exact upd_same, ⟨by rw [upd_ne nLda]; exact S8 _ _ hda, In.le hdi (by decide), hdo⟩, h0, h1, show bx < _ by omega⟩
    · rintro σ H4 ⟨as, v, rfl, b4, p4, hL4, hl, hw⟩
      refine ⟨_, rfl, L, _, rfl, .inl ⟨SqL.of hL4, fun t ht => ?_⟩⟩
      have S := same_new ht (.tup (as.map fun x => .ref x.a))
      exact q t as _ (b13.trans (b4.trans (same_but S))) (p4.same S) ((b13.trans b4).free (pot_ne p4 ht) ht) ⟨upd_same, by omega, fun x hx => (hw x hx).same S⟩
omit B in
theorem wg_const {d : PyData} {n c b : Nat} (h1 : d.depth ≤ 2) (h2 : wt d ≤ 30000) (h3 : ib d ≤ 10 ^ 29) (hb : 10 ^ 29 ≤ b) : Wg d (n + 2) (c + 30000) (b + 1) := ⟨by omega, by omega, by omega⟩
def spOther (K : PySem.W.Frag) : Sp := fun vs H Q _ => ∃ (p : Addr) (v : V) (d : PyData) (n c b : Nat) (S : Addr → Prop), vs = [.ref p, v] ∧ PotAt H p ∧ SetOf S p H ∧ ThL K S H v d ∧ Wg d n c b ∧ 10 ^ 29 ≤ b ∧ b ≤ 10 ^ 90 ∧
  ∀ v' d' H', But p H H' → PotAt H' p → ThL K S H' v' d' → Wg d' (n + 2) (c + 30000) (b + 1) → Q v' H'
theorem k__law_other (D : Df K mg "_law_other" s__law_other ["_law_pot_here", "_law_thing"]) (D__law_draw : Dn P w K mg base 1 "_law_draw" ["_law_pot_here", "_law_many"] spTake) (D__law_is_whole : Dn P w K mg base 1 "_law_is_whole" ["_law_thing"] (spWhT2 K)) : Dn P w K mg base 3 "_law_other" ["_law_pot_here", "_law_thing"] (spOther K) := by
  refine D.ok fun f fd F => okG0 F sc__law_other (fun vs H Q E h => ?_) (fun cdv A outer s H vs Q E hr h => ⟨_, (pss_cons (ps_set (i := 2) sc__law_other.nd rfl (Or.inl rfl) (pe_lstS (pa_cons pe_non (pa_cons pe_bl (pa_cons pe_bl (pa_cons pe_str (pa_cons pe_str (pa_cons (pe_tup pa_nil) (pa_cons (pe_tup (pa_cons pe_int pa_nil)) (pa_cons (pe_lstS pa_nil) (pa_cons pe_dnewK (pa_cons (pe_un un_neg pe_int) (pa_cons pe_int (pa_cons pe_int (pa_cons pe_int (pa_cons pe_int (pa_cons pe_int (pa_cons (pe_op op_pow pe_int pe_int) (pa_cons (pe_un un_neg (pe_op op_pow pe_int pe_int)) (pa_cons (pe_tup (pa_cons pe_int (pa_cons pe_non (pa_cons pe_non pa_nil)))) pa_nil))))))))))))))))))))
    (pss_cons (ps_set (i := 2) sc__law_other.nd rfl (Or.inl rfl) (pe_op op_cat (pv 2) (pe_lstS (pa_cons (pe_tup (pa_cons pe_int (pa_cons pe_int (pa_cons pe_int pa_nil)))) (pa_cons (pe_tup (pa_cons pe_int (pa_cons pe_int (pa_cons pe_int pa_nil)))) (pa_cons (pe_tup (pa_cons pe_int (pa_cons pe_int (pa_cons pe_int pa_nil)))) (pa_cons (pe_tup (pa_cons pe_int (pa_cons pe_int (pa_cons (pe_tup (pa_cons pe_int (pa_cons pe_non (pa_cons pe_non pa_nil)))) pa_nil)))) (pa_cons (pe_lstS (pa_cons (pv 1) pa_nil)) (pa_cons (pe_tup (pa_cons (pv 1) pa_nil)) (pa_cons (pe_disp (pps_cons pe_int (pv 1) pps_nil) (by rfl) (by rfl) (fun z => by cases z) (by decide)) pa_nil))))))))))
    (pss_cons (ps_if (pt_val (pe_cD D__law_is_whole (hr.less (by decide)) rfl (pa_cons (pv 1) pa_nil)))
      (pss_one (ps_set (i := 2) sc__law_other.nd rfl (Or.inl rfl) (pe_op op_cat (pv 2) (pe_op op_rep (pe_lstS (pa_cons (pe_op op_add (pv 1) pe_int) (pa_cons (pe_op op_sub (pv 1) pe_int) (pa_cons (pe_op op_sub pe_int (pv 1)) (pa_cons (pe_callTy call_str_int (by rfl) B.str_ (by decide +kernel) (pa_cons (pv 1) pa_nil)) pa_nil))))) pe_int))))
      pss_nil)
    (pss_one (ps_ret (pe_ix (kk (K := K) (F := rIxL) (P := IxR _) ix_list) (pv 2) (pe_cD D__law_draw (hr.less (by decide)) rfl (pa_cons (pv 0) (pa_cons (pe_callB (lenK (K := K)) (by rfl) B.len_ (by decide +kernel) (pa_cons (pv 2) pa_nil)) pa_nil))) (fun _ _ => rfl))))))), ?_⟩)
  · obtain ⟨p, v, d, n, c, b, S, rfl, _⟩ := h; rfl
  · obtain ⟨p, v, d, n, c, b, S, rfl, hp, hS, hd, hw, b1, b2, q⟩ := h
    have cp : CPow 10 29 := ⟨by decide, by decide, by decide⟩
    try walk_at "go"
    intro t1 ht1
    generalize eH1 : upd _ t1 _ = H1
    have SH1 := newS eH1 ht1
    have ot1 := newO eH1
    try walk_at "go"
    intro t2 ht2
    generalize eH2 : upd _ t2 _ = H2
    have SH2 := newS eH2 ht2
    have ot2 := newO eH2
    try walk_at "go"
    intro t3 ht3
    generalize eH3 : upd _ t3 _ = H3
    have SH3 := newS eH3 ht3
    have ot3 := newO eH3
    intro s3
    try walk_at "go"
    intro t4 ht4
    generalize eH4 : upd _ t4 _ = H4
    have SH4 := newS eH4 ht4
    have ot4 := newO eH4
    try walk_at "go"
    intro t5 ht5
    generalize eH5 : upd _ t5 _ = H5
    have SH5 := newS eH5 ht5
    have ot5 := newO eH5
    try walk_at "go"
    intro L1 hL1
    generalize eH6 : upd _ L1 _ = H6
    have SH6 := newS eH6 hL1
    have oL1 := newO eH6
    intro s6
    try walk_at "go"
    intro u1 hu1
    generalize eH7 : upd _ u1 _ = H7
    have SH7 := newS eH7 hu1
    have ou1 := newO eH7
    try walk_at "go"
    intro u2 hu2
    generalize eH8 : upd _ u2 _ = H8
    have SH8 := newS eH8 hu2
    have ou2 := newO eH8
    try walk_at "go"
    intro u3 hu3
    generalize eH9 : upd _ u3 _ = H9
    have SH9 := newS eH9 hu3
    have ou3 := newO eH9
    try walk_at "go"
    intro u0 hu0
    generalize eH10 : upd _ u0 _ = H10
    have SH10 := newS eH10 hu0
    have ou0 := newO eH10
    try walk_at "go"
    intro u4 hu4
    generalize eH11 : upd _ u4 _ = H11
    have SH11 := newS eH11 hu4
    have ou4 := newO eH11
    try walk_at "go"
    intro u5 hu5
    generalize eH12 : upd _ u5 _ = H12
    have SH12 := newS eH12 hu5
    have ou5 := newO eH12
    intro s12
    try walk_at "go"
    intro u6 hu6
    generalize eH13 : upd _ u6 _ = H13
    have SH13 := newS eH13 hu6
    have ou6 := newO eH13
    try walk_at "go"
    intro u7 hu7
    generalize eH14 : upd _ u7 _ = H14
    have SH14 := newS eH14 hu7
    have ou7 := newO eH14
    try walk_at "go"
    refine ⟨(show _ = List.map (fun kv => (kV kv.1, kv.2)) [((Sum.inl 0 : Key), v)] from rfl), by show 1 ≤ 15; decide, ?_⟩
    generalize eH15 : upd H14 u7 (HO.dK (mergeK [] [((Sum.inl 0 : Key), v)])) = H15
    have S1315 : Same H13 H15 := but_same hu7 SH14 (eH15 ▸ But.upd)
    have ou7' : H15 u7 = some (.dK [(Sum.inl 0, v)]) := by rw [← eH15]; exact upd_same
    clear ou7
    have S16 : Same H1 H6 := SH2.trans (SH3.trans (SH4.trans (SH5.trans SH6)))
    have S613 : Same H6 H13 := SH7.trans (SH8.trans (SH9.trans (SH10.trans (SH11.trans (SH12.trans SH13)))))
    have oL1' := S1315 _ _ (S613 _ _ oL1)
    try walk_at "go"
    intro L2 hL2
    generalize eH16 : upd _ L2 _ = H16
    have SH16 := newS eH16 hL2
    have oL2 := newO eH16
    intro s16
    have oL1'' := SH16 _ _ oL1'
    try walk_at "go"
    intro L3 hL3
    generalize eH17 : upd _ L3 _ = H17
    have SH17 := newS eH17 hL3
    have oL3 := newO eH17
    have S015 : Same H H15 := SH1.trans (S16.trans (S613.trans S1315))
    have S017 : Same H H17 := S015.trans (SH16.trans SH17)
    have hd17 := hd.same S017
    have hdP := hd17.th hS.p_
    have p17 := hp.same S017
    have p2 := hp.same (SH1.trans SH2)
    have p11 := hp.same (SH1.trans (S16.trans (SH7.trans (SH8.trans (SH9.trans (SH10.trans SH11))))))
    have npt3 : ¬ S t3 := fun z => hS.fr _ z ((SH1.trans SH2).free ht3)
    have npu5 : ¬ S u5 := fun z => hS.fr _ z ((SH1.trans (S16.trans (SH7.trans (SH8.trans (SH9.trans (SH10.trans SH11)))))).free hu5)
    have S1517 := SH16.trans SH17
    have g1 := (S16.trans (S613.trans (S1315.trans S1517))) _ _ ot1
    have g2 := (SH3.trans (SH4.trans (SH5.trans (SH6.trans (S613.trans (S1315.trans S1517)))))) _ _ ot2
    have g3 := (SH4.trans (SH5.trans (SH6.trans (S613.trans (S1315.trans S1517))))) _ _ ot3
    have g4 := (SH5.trans (SH6.trans (S613.trans (S1315.trans S1517)))) _ _ ot4
    have g5 := (SH6.trans (S613.trans (S1315.trans S1517))) _ _ ot5
    have k1 := (SH8.trans (SH9.trans (SH10.trans (SH11.trans (SH12.trans (SH13.trans (S1315.trans S1517))))))) _ _ ou1
    have k2 := (SH9.trans (SH10.trans (SH11.trans (SH12.trans (SH13.trans (S1315.trans S1517)))))) _ _ ou2
    have k3 := (SH10.trans (SH11.trans (SH12.trans (SH13.trans (S1315.trans S1517))))) _ _ ou3
    have k0 := (SH11.trans (SH12.trans (SH13.trans (S1315.trans S1517)))) _ _ ou0
    have k4 := (SH12.trans (SH13.trans (S1315.trans S1517))) _ _ ou4
    have k5 := (SH13.trans (S1315.trans S1517)) _ _ ou5
    have k6 := (S1315.trans S1517) _ _ ou6
    have k7 := S1517 _ _ ou7'
    let lk : PyData := .tuple [.int 0, .none, .none]
    let tr0 : List (V × PyData) := [(.non, .none), (.bl true, .bool true), (.bl false, .bool false), (.str "0", .str "0"), (.str "", .str ""), (.ref t1, .tuple []), (.ref t2, .tuple [.int 0]), (.ref t3, .list []), (.ref t4, .dict []), (.int (-1), .int (-1)), (.int 0, .int 0), (.int 1, .int 1), (.int 15, .int 15), (.int 16, .int 16), (.int 17, .int 17), (.int (10 ^ Int.toNat 29), .int (10 ^ Int.toNat 29)), (.int (-(10 ^ Int.toNat 29)), .int (-(10 ^ Int.toNat 29))), (.ref t5, lk),
      (.ref u1, .tuple [.int 1, .int 2, .int 2]), (.ref u2, .tuple [.int 0, .int 2, .int 2]), (.ref u3, .tuple [.int 0, .int 3, .int 2]), (.ref u4, .tuple [.int 0, .int 0, lk]), (.ref u5, .list [d]), (.ref u6, .tuple [d]), (.ref u7, .dict [(.int 0, d)])]
    have hI : ∀ (a : Addr) (ns : List Int), H17 a = some (.tup (ns.map V.int)) → ThL K S H17 (.ref a) (.tuple (ns.map PyData.int)) := fun a ns h => by
      have := ThL.tup (K := K) (S := S) (tr := ns.map fun i => (V.int i, PyData.int i)) (by rw [List.map_map]; exact h) fun t ht => by
        obtain ⟨i, _, rfl⟩ := List.mem_map.mp ht
        exact .int i
      rw [List.map_map] at this
      exact this
    have hlk : ∀ a, H17 a = some (.tup [.int 0, .non, .non]) → ThL K S H17 (.ref a) lk := fun a h => ThL.tup (tr := [(.int 0, .int 0), (.non, .none), (.non, .none)]) h fun t ht => by
      simp only [List.mem_cons, List.not_mem_nil, or_false] at ht
      rcases ht with rfl | rfl | rfl
      · exact .int 0
      · exact .non
      · exact .non
    have hd1 : Wg d (n + 1) c (b + 1) := hw.mono (by omega) (Nat.le_refl _) (by omega)
    have all0 : ∀ t ∈ tr0, ThL K S H17 t.1 t.2 ∧ Wg t.2 (n + 2) (c + 30000) (b + 1) := fun t ht => by
      simp only [tr0, List.mem_cons, List.not_mem_nil, or_false] at ht
      rcases ht with rfl | rfl | rfl | rfl | rfl | rfl | rfl | rfl | rfl | rfl | rfl | rfl | rfl | rfl | rfl | rfl | rfl | rfl | rfl | rfl | rfl | rfl | rfl | rfl | rfl
      · exact ⟨.non, wg_const (by dsimp only; decide) (by dsimp only; decide) (by dsimp only; decide) b1⟩
      · exact ⟨.bl _, wg_const (by dsimp only; decide) (by dsimp only; decide) (by dsimp only; decide) b1⟩
      · exact ⟨.bl _, wg_const (by dsimp only; decide) (by dsimp only; decide) (by dsimp only; decide) b1⟩
      · exact ⟨.str _, wg_const (by dsimp only; decide) (by dsimp only; decide +kernel) (by dsimp only; decide) b1⟩
      · exact ⟨.str _, wg_const (by dsimp only; decide) (by dsimp only; decide +kernel) (by dsimp only; decide) b1⟩
      · exact ⟨hI _ [] g1, wg_const (by dsimp only; decide) (by dsimp only; decide) (by dsimp only; decide) b1⟩
      · exact ⟨hI _ [0] g2, wg_const (by dsimp only; decide) (by dsimp only; decide) (by dsimp only; decide) b1⟩
      · exact ⟨ThL.lst (tr := []) npt3 s3 g3 fun t h => absurd h List.not_mem_nil, wg_const (by dsimp only; decide) (by dsimp only; decide) (by dsimp only; decide) b1⟩
      · exact ⟨ThL.dct (tr := []) g4 fun t h => absurd h List.not_mem_nil, wg_const (by dsimp only; decide) (by dsimp only; decide) (by dsimp only; decide) b1⟩
      · exact ⟨.int _, wg_const (by dsimp only; decide) (by dsimp only; decide) (by dsimp only; decide) b1⟩
      · exact ⟨.int _, wg_const (by dsimp only; decide) (by dsimp only; decide) (by dsimp only; decide) b1⟩
      · exact ⟨.int _, wg_const (by dsimp only; decide) (by dsimp only; decide) (by dsimp only; decide) b1⟩
      · exact ⟨.int _, wg_const (by dsimp only; decide) (by dsimp only; decide) (by dsimp only; decide) b1⟩
      · exact ⟨.int _, wg_const (by dsimp only; decide) (by dsimp only; decide) (by dsimp only; decide) b1⟩
      · exact ⟨.int _, wg_const (by dsimp only; decide) (by dsimp only; decide) (by dsimp only; decide) b1⟩
      · exact ⟨.int _, wg_const (by dsimp only; decide) (by dsimp only; decide) (by dsimp only; decide) b1⟩
      · exact ⟨.int _, wg_const (by dsimp only; decide) (by dsimp only; decide) (by dsimp only; decide) b1⟩
      · exact ⟨hlk _ g5, wg_const (by dsimp only; decide) (by dsimp only; decide) (by dsimp only; decide) b1⟩
      · exact ⟨hI _ [1, 2, 2] k1, wg_const (by dsimp only; decide) (by dsimp only; decide) (by dsimp only; decide) b1⟩
      · exact ⟨hI _ [0, 2, 2] k2, wg_const (by dsimp only; decide) (by dsimp only; decide) (by dsimp only; decide) b1⟩
      · exact ⟨hI _ [0, 3, 2] k3, wg_const (by dsimp only; decide) (by dsimp only; decide) (by dsimp only; decide) b1⟩
      · refine ⟨ThL.tup (tr := [(.int 0, .int 0), (.int 0, .int 0), (.ref u0, lk)]) k4 fun t ht => ?_, wg_const (by dsimp only; decide) (by dsimp only; decide) (by dsimp only; decide) b1⟩
        simp only [List.mem_cons, List.not_mem_nil, or_false] at ht
        rcases ht with rfl | rfl | rfl
        · exact .int 0
        · exact .int 0
        · exact hlk _ k0
      · refine ⟨ThL.lst (tr := [(v, d)]) npu5 s12 k5 fun t ht => ?_, (Wg.lst (Wgs.cons hd1 (Wgs.nil (c := 0)))).mono (Nat.le_refl _) (by omega) (Nat.le_refl _)⟩
        cases List.mem_singleton.mp ht
        exact hd17
      · refine ⟨ThL.tup (tr := [(v, d)]) k6 fun t ht => ?_, (Wg.tup (Wgs.cons hd1 (Wgs.nil (c := 0)))).mono (Nat.le_refl _) (by omega) (Nat.le_refl _)⟩
        cases List.mem_singleton.mp ht
        exact hd17
      · refine ⟨ThL.dct (tr := [(0, v, d)]) k7 fun t ht => ?_, ?_⟩
        · cases List.mem_singleton.mp ht
          exact hd17
        · refine ⟨?_, ?_, ?_⟩
          · have := hd1.dep
            show max (max 0 d.depth) 0 + 1 ≤ n + 2
            omega
          · have := hd1.len
            show 1921 + wt d + 8 + 0 + 4 ≤ c + 30000
            omega
          · have := hd1.big
            show max (max 0 (ib d)) 0 ≤ b + 1
            omega
    have bh : But p H H17 := same_but S017
    have fin : ∀ (tr : List (V × PyData)) (Hf He : Hp) (e : Nat), Same H17 Hf → PotAt Hf p → (∀ t ∈ tr, ThL K S H17 t.1 t.2 ∧ Wg t.2 (n + 2) (c + 30000) (b + 1)) → But p Hf He → PotAt He p → ∀ h : e < tr.length, Q tr[e].1 He := fun tr Hf He e sf pf all be pe h => by
      obtain ⟨h1, h2⟩ := all _ (List.getElem_mem h)
      obtain ⟨x, y, hx, _⟩ := pf
      exact q _ _ He (bh.trans ((same_but sf).trans be)) pe ((h1.same sf).but hS.p_ be hx) h2
    try walk_at "go"
    refine ite2 (fun cw => ?_) (fun cw => ?_)
    · obtain ⟨i, rfl⟩ := isWh_inv cw
      have ev := hd.int_inv
      subst ev
      have hi : i.natAbs ≤ b := hw.big
      have hlog : i.natAbs.log2 < 1920 := log_lt (by decide) (Nat.lt_of_le_of_lt (Nat.le_trans hi b2) (by decide))
      try walk_at "go"
      intro L4 hL4
      generalize eH18 : upd _ L4 _ = H18
      have SH18 := newS eH18 hL4
      have oL4 := newO eH18
      intro s18
      have oL3' := SH18 _ _ oL3
      try walk_at "go"
      intro L5 hL5
      generalize eH19 : upd _ L5 _ = H19
      have SH19 := newS eH19 hL5
      have oL5 := newO eH19
      have oL3'' := SH19 _ _ oL3'
      try walk_at "go"
      refine ⟨by show 25 + 8 ≤ sizeLine; decide, ?_⟩
      intro L6 hL6
      generalize eH20 : upd _ L6 _ = H20
      have SH20 := newS eH20 hL6
      have oL6 := newO eH20
      let tr1 : List (V × PyData) := tr0 ++ [(.int (i + 1), .int (i + 1)), (.int (i - 1), .int (i - 1)), (.int (0 - i), .int (0 - i)), (.str (toString i), .str (toString i)), (.int (i + 1), .int (i + 1)), (.int (i - 1), .int (i - 1)), (.int (0 - i), .int (0 - i)), (.str (toString i), .str (toString i))]
      have oL6' : H20 L6 = some (.lst (tr1.map fun t => t.1)) := oL6
      clear oL6 oL4 oL5 oL3 oL3' oL3'' eH20 eH19 eH18 eH17
      have S1720 := SH18.trans (SH19.trans SH20)
      have p20 := p17.same S1720
      have npL6 : L6 ≠ p := pot_ne (p17.same (SH18.trans SH19)) hL6
      have all1 : ∀ t ∈ tr1, ThL K S H17 t.1 t.2 ∧ Wg t.2 (n + 2) (c + 30000) (b + 1) := fun t ht => by
        rcases List.mem_append.mp ht with z | z
        · exact all0 t z
        have wi : ∀ j : Int, j.natAbs ≤ b + 1 → Wg (.int j) (n + 2) (c + 30000) (b + 1) := fun j hj => ⟨Nat.zero_le _, by show 1921 ≤ _; omega, hj⟩
        have ws : Wg (.str (toString i)) (n + 2) (c + 30000) (b + 1) := ⟨Nat.zero_le _, by have := strI_wt i (Nat.le_trans hi (Nat.le_trans b2 (by decide))); omega, Nat.zero_le _⟩
        simp only [List.mem_cons, List.not_mem_nil, or_false] at z
        rcases z with rfl | rfl | rfl | rfl | rfl | rfl | rfl | rfl
        · exact ⟨.int _, wi _ (by omega)⟩
        · exact ⟨.int _, wi _ (by omega)⟩
        · exact ⟨.int _, wi _ (by omega)⟩
        · exact ⟨.str _, ws⟩
        · exact ⟨.int _, wi _ (by omega)⟩
        · exact ⟨.int _, wi _ (by omega)⟩
        · exact ⟨.int _, wi _ (by omega)⟩
        · exact ⟨.str _, ws⟩
      have l1 : 1 ≤ tr1.length := by show 1 ≤ 33; decide
      have l40 : tr1.length ≤ 40 := by show 33 ≤ 40; decide
      clear_value tr1
      have lm : (tr1.map fun t => t.1).length = tr1.length := List.length_map _
      try walk_at "go"
      intro e0 He e1 e2 be pe
      rw [lm] at e2
      obtain ⟨e, rfl⟩ : ∃ e : Nat, e0 = (e : Int) := ⟨e0.toNat, by omega⟩
      have el : e < tr1.length := by omega
      have hLe := be _ _ npL6 oL6'
      have ae : atI (tr1.map fun t => t.1) (e : Int) = some tr1[e].1 := atI_nat (by rw [List.getElem?_map, List.getElem?_eq_getElem el] <;> rfl)
      try walk_at "go"
      exact fin tr1 H20 He e S1720 p20 all1 be pe el
    · have oL3' : H17 L3 = some (.lst (tr0.map fun t => t.1)) := oL3
      clear oL3 eH17
      have npL3 : L3 ≠ p := pot_ne (hp.same (S015.trans SH16)) hL3
      have l1 : 1 ≤ tr0.length := by show 1 ≤ 25; decide
      have l40 : tr0.length ≤ 40 := by show 25 ≤ 40; decide
      clear_value tr0
      have lm : (tr0.map fun t => t.1).length = tr0.length := List.length_map _
      try walk_at "go"
      intro e0 He e1 e2 be pe
      rw [lm] at e2
      obtain ⟨e, rfl⟩ : ∃ e : Nat, e0 = (e : Int) := ⟨e0.toNat, by omega⟩
      have el : e < tr0.length := by omega
      have hLe := be _ _ npL3 oL3'
      have ae : atI (tr0.map fun t => t.1) (e : Int) = some tr0[e].1 := atI_nat (by rw [List.getElem?_map, List.getElem?_eq_getElem el] <;> rfl)
      try walk_at "go"
      exact fin tr0 H17 He e (Same.refl _) p17 all0 be pe el
def spBent (K : PySem.W.Frag) (n : Nat) : Sp := fun vs H Q _ => ∃ (p : Addr) (v : V) (d : PyData) (k N c b : Nat) (S : Addr → Prop), vs = [.ref p, v, .int k] ∧ PotAt H p ∧ SetOf S p H ∧ ThL K S H v d ∧ Wg d N c b ∧ k + 1 ≤ n ∧ k ≤ 40 ∧ 10 ^ 29 ≤ b ∧ b ≤ 10 ^ 90 ∧ c ≤ 1000000 ∧
  ∀ v' d' H', But p H H' → PotAt H' p → ThL K S H' v' d' → Wg d' (N + 3) (2 * c + 40000) (b + 1) → Q v' H'
theorem _law_bent_z (vs : List V) (H : Hp) (Q : VK) (E : XK) : ¬ spBent K 0 vs H Q E := by
  rintro ⟨p, v, d, k, N, c, b, S, _, _, _, _, _, h1, _⟩
  omega
theorem k__law_bent_rec (D : Df K mg "_law_bent" s__law_bent ["_law_pot_here", "_law_thing", "_law_deep"]) (D__law_draw : Dn P w K mg base 1 "_law_draw" ["_law_pot_here", "_law_many"] spTake) (D__law_other : Dn P w K mg base 3 "_law_other" ["_law_pot_here", "_law_thing"] (spOther K)) : ∀ n : Nat, Dn P w K mg base (4 + n) "_law_bent" ["_law_pot_here", "_law_thing", "_law_deep"] ((spBent K) n) := by
  intro n
  induction n with
  | zero => exact D.ok fun f fd F => ⟨fun vs H Q E h => (_law_bent_z B vs H Q E h).elim, fun _ _ _ _ h => (_law_bent_z B _ _ _ _ h).elim⟩
  | succ n D__law_bent =>
    refine D.ok fun f fd F => okG0 (k := 4 + n) F sc__law_bent (fun vs H Q E h => ?_) (fun cdv A outer s H vs Q E hr h => ⟨_, (pss_cons (ps_set (i := 3) sc__law_bent.nd rfl (Or.inl rfl) (pe_cD D__law_draw (hr.less (by omega)) rfl (pa_cons (pv 0) (pa_cons pe_int pa_nil))))
    (pss_cons (ps_if (PW.pt (pw_or (pt_not (pt_val (pe_callB (kk (K := K) (F := rIsi) (P := CallR _ _) call_isi) (by rfl) B.isinstance_ (by decide +kernel) (pa_cons (pv 1) (pa_cons (pe_bltn (v := .ty "tuple") (u := .type "tuple") (by rfl) B.tuple_ (by decide +kernel) rfl) pa_nil))))) (pw_or (pt_cmpR op_eq (pv 2) pe_int (nomark _)) (pw_or1 (pt_cmpR op_eq (pv 3) pe_int (nomark _))))))
      (pss_one (ps_ret (pe_cD D__law_other (hr.less (by omega)) rfl (pa_cons (pv 0) (pa_cons (pv 1) pa_nil)))))
      pss_nil)
    (pss_cons (ps_set (i := 4) sc__law_bent.nd rfl (Or.inl rfl) (pe_cD D__law_draw (hr.less (by omega)) rfl (pa_cons (pv 0) (pa_cons (pe_op op_add (pe_callB (lenK (K := K)) (by rfl) B.len_ (by decide +kernel) (pa_cons (pv 1) pa_nil)) pe_int) pa_nil))))
    (pss_cons (ps_if (pt_cmpR op_eq (pv 3) pe_int (nomark _))
      (pss_one (ps_ret (pe_callTy (lstOfS (K := K)) (by rfl) B.list_ (by decide +kernel) (pa_cons (pv 1) pa_nil))))
      pss_nil)
    (pss_cons (ps_if (pt_cmpR op_eq (pv 3) pe_int (nomark _))
      (pss_one (ps_ret (pe_op op_catU (pe_op op_catU (pe_slice sl_tupU (pv 1) po_none (po_some (pv 4))) (pe_tup (pa_cons (pe_cD D__law_other (hr.less (by omega)) rfl (pa_cons (pv 0) (pa_cons pe_int pa_nil))) pa_nil))) (pe_slice sl_tupU (pv 1) (po_some (pv 4)) po_none))))
      pss_nil)
    (pss_cons (ps_if (pt_cmpR op_eq (pv 3) pe_int (nomark _))
      (pss_one (ps_ret (pe_op op_catU (pe_op op_catU (pe_slice sl_tupU (pv 1) po_none (po_some (pv 4))) (pe_slice sl_tupU (pv 1) (po_some (pv 4)) (po_some (pe_op op_add (pv 4) pe_int)))) (pe_slice sl_tupU (pv 1) (po_some (pv 4)) po_none))))
      pss_nil)
    (pss_cons (ps_if (PW.pt (pw_or (pt_cmpR op_eq (pv 3) pe_int (nomark _)) (pw_or1 (pt_cmpR op_eq (pv 4) (pe_callB (lenK (K := K)) (by rfl) B.len_ (by decide +kernel) (pa_cons (pv 1) pa_nil)) (nomark _)))))
      (pss_one (ps_ret (pe_op op_catU (pe_slice sl_tupU (pv 1) po_none (po_some (pv 4))) (pe_slice sl_tupU (pv 1) (po_some (pe_op op_add (pv 4) pe_int)) po_none))))
      pss_nil)
    (pss_one (ps_ret (pe_op op_catU (pe_op op_catU (pe_slice sl_tupU (pv 1) po_none (po_some (pv 4))) (pe_tup (pa_cons (pe_cD D__law_bent (hr.less (by omega)) rfl (pa_cons (pv 0) (pa_cons (pe_ix (kk (K := K) (F := rIxT) (P := IxR _) ix_tup) (pv 1) (pv 4) (fun _ _ => rfl)) (pa_cons (pe_op op_sub (pv 2) pe_int) pa_nil)))) pa_nil))) (pe_slice sl_tupU (pv 1) (po_some (pe_op op_add (pv 4) pe_int)) po_none))))))))))), ?_⟩)
    · obtain ⟨p, v, d, k, N, c, b, S, rfl, _⟩ := h; rfl
    · obtain ⟨p, v, d, k, N, c, b, S, rfl, hp, hS, hd, hw, kn, k40, b1, b2, hc, q⟩ := h
      try walk_at "go"
      intro e0 H1 e1 e2 be1 p1
      obtain ⟨e, rfl⟩ : ∃ e : Nat, e0 = (e : Int) := ⟨e0.toNat, by omega⟩
      have hd1 := hd.but hS.p_ be1 hp.choose_spec.choose_spec.1
      have so1 := hS.but be1 p1
      have hdP := hd1.th hS.p_
      have ty := hd1.ty
      have k1 := kit_tu (K := K) d
      have fin : ∀ v' d' H', But p H1 H' → PotAt H' p → ThL K S H' v' d' → Wg d' (N + 3) (2 * c + 40000) (b + 1) → Q v' H' := fun v' d' H' be pe th w => q v' d' H' (be1.trans be) pe th w
      have w1 : ∀ d', Wg d' (N + 2) (c + 30000) (b + 1) → Wg d' (N + 3) (2 * c + 40000) (b + 1) := fun d' w => w.mono (by omega) (by omega) (Nat.le_refl _)
      cases ed : isTu d with
      | false =>
        rw [ed] at k1
        try walk_at "go"
        intro v' d' H' be pe th w
        exact fin v' d' H' be pe th (w1 d' w)
      | true =>
        rw [ed] at k1
        obtain ⟨ds, rfl⟩ := isTu_inv ed
        obtain ⟨a, tr, rfl, rfl, ha, htr⟩ := hd1.tup_inv
        try walk_at "go"
        refine ite2 (fun c1 => ?_) (fun c1 => ?_)
        · try walk_at "go"
          intro v' d' H' be pe th w
          exact fin v' d' H' be pe th (w1 d' w)
        have k0 : k ≠ 0 := fun z => c1 (by subst z; rfl)
        try walk_at "go"
        refine ite2 (fun c2 => ?_) (fun c2 => ?_)
        · try walk_at "go"
          intro v' d' H' be pe th w
          exact fin v' d' H' be pe th (w1 d' w)
        have hun := hw.untup
        have hlen := wts_len (tr.map fun t => t.2)
        rw [List.length_map] at hlen
        have hl2 := hun.len
        have lm : (tr.map fun t => t.1).length = tr.length := List.length_map _
        try walk_at "go"
        intro f0 H2 f1 f2 be2 p2
        rw [lm] at f2
        obtain ⟨at', rfl⟩ : ∃ at' : Nat, f0 = (at' : Int) := ⟨f0.toNat, by omega⟩
        have hp1 := p1.choose_spec.choose_spec.1
        have ha2 := pot_keep be2 p1 _ _ ha
        have htr2 : ∀ t ∈ tr, ThL K S H2 t.1 t.2 := fun t ht => (htr t ht).but hS.p_ be2 hp1
        try walk_at "go"
        have htr0 : ∀ (xs : List (V × PyData)), (∀ t ∈ xs, t ∈ tr) → ∀ H', But p H2 H' → ∀ t ∈ xs, ThL K S H' t.1 t.2 := fun xs h H' be t ht => (htr2 t (h t ht)).but hS.p_ be p2.choose_spec.choose_spec.1
        have atl : at' ≤ tr.length := by omega
        have w0 : Wg (.int 0) 0 1921 b := ⟨Nat.zero_le _, Nat.le_refl _, Nat.zero_le _⟩
        have tk : ∀ t ∈ tr.take at', t ∈ tr := fun t => List.mem_of_mem_take
        have dk : ∀ t ∈ tr.drop at', t ∈ tr := fun t => List.mem_of_mem_drop
        have wsp : Wgs ((tr.take at').map fun t => t.2) (N - 1) (c - 4) b ∧ Wgs ((tr.drop at').map fun t => t.2) (N - 1) (c - 4) b := Wgs.sub (by rw [← List.map_append, List.take_append_drop]; exact hun)
        have lt1 : (tr.take at').length ≤ tr.length := by rw [List.length_take]; omega
        have lt2 : (tr.drop at').length ≤ tr.length := by rw [List.length_drop]; omega
        have lm1 : ((tr.take at').map fun t => t.1).length = (tr.take at').length := List.length_map _
        have lm2 : ((tr.drop at').map fun t => t.1).length = (tr.drop at').length := List.length_map _
        have slz : 3000000 ≤ sizeLine := by decide
        refine ite2 (fun c3 => ?_) (fun c3 => ?_)
        · try walk_at "go"
          intro L hL
          generalize eH3 : upd _ L _ = H3
          have SH3 := newS eH3 hL
          have oL := newO eH3
          intro s3
          refine fin _ (.list (tr.map fun t => t.2)) H3 (be2.trans (same_but SH3)) (p2.same SH3) ?_ ?_
          · exact ThL.lst (fun z => (so1.but be2 p2).fr _ z hL) s3 oL (htr0 tr (fun t h => h) H3 (same_but SH3))
          · exact (Wg.lst hun).mono (by omega) (by omega) (by omega)
        try walk_at "go"
        have wsp1 : Wgs ((tr.drop (at' + 1)).map fun t => t.2) (N - 1) (c - 4) b := (Wgs.sub (xs := (tr.take (at' + 1)).map fun t => t.2) (by rw [← List.map_append, List.take_append_drop]; exact hun)).2
        have lt3 : (tr.drop (at' + 1)).length ≤ tr.length := by rw [List.length_drop]; omega
        have lm3 : ((tr.drop (at' + 1)).map fun t => t.1).length = (tr.drop (at' + 1)).length := List.length_map _
        have lt4 : ((tr.drop at').take 1).length ≤ 1 := by rw [List.length_take]; omega
        have lm4 : (((tr.drop at').take 1).map fun t => t.1).length = ((tr.drop at').take 1).length := List.length_map _
        have dk1 : ∀ t ∈ tr.drop (at' + 1), t ∈ tr := fun t => List.mem_of_mem_drop
        have dk2 : ∀ t ∈ (tr.drop at').take 1, t ∈ tr := fun t h => List.mem_of_mem_drop (List.mem_of_mem_take h)
        have wsp2 : Wgs (((tr.drop at').take 1).map fun t => t.2) (N - 1) (c - 4) b := (Wgs.sub (ys := ((tr.drop at').drop 1).map fun t => t.2) (by rw [← List.map_append, List.take_append_drop]; exact wsp.2)).1
        have at1 : ((at' : Int) + 1) = ((at' + 1 : Nat) : Int) := by omega
        have endT : ∀ (xs : List (V × PyData)) (T : Addr) (H' : Hp), But p H2 H' → PotAt H' p → H' T = some (.tup (xs.map fun t => t.1)) → (∀ t ∈ xs, ThL K S H' t.1 t.2) → Wgs (xs.map fun t => t.2) (N + 2) (2 * c + 39990) (b + 1) → Q (.ref T) H' := fun xs T H' be pe o th w => fin _ _ H' (be2.trans be) pe (ThL.tup o th) ((Wg.tup w).mono (by omega) (by omega) (Nat.le_refl _))
        refine ite2 (fun c4 => ?_) (fun c4 => ?_)
        · try walk_at "go"
          intro T1 H3 S3 o3
          rw [cut_toU, ← List.map_take] at o3
          have th0 : ThL K S H3 (.int 0) (.int 0) := .int 0
          have p3 := p2.same S3
          have so3 : SetOf S p H3 := so1.but (be2.trans (same_but S3)) p3
          try walk_at "go"
          intro v' d' H4 b4 p4 th4 w4
          have a4 := pot_keep b4 p3 _ _ (S3 _ _ ha2)
          have o4 := pot_keep b4 p3 _ _ o3
          try walk_at "go"
          intro U hU
          generalize eH5 : upd _ U _ = H5
          have SH5 := newS eH5 hU
          have oU := newO eH5
          have o5 := SH5 _ _ o4
          try walk_at "go"
          intro T2 H6 S6 o6
          try walk_at "go"
          intro T3 H7 S7 o7
          rw [cut_fromU, ← List.map_drop] at o7
          have o67 := S7 _ _ o6
          try walk_at "go"
          intro T4 H8 S8 o8
          have bb : But p H4 H8 := same_but (SH5.trans (S6.trans (S7.trans S8)))
          have b28 := (same_but S3).trans (b4.trans bb)
          refine endT (tr.take at' ++ [(v', d')] ++ tr.drop at') T4 H8 b28 (p4.same (SH5.trans (S6.trans (S7.trans S8)))) (by rw [o8, List.map_append, List.map_append] <;> rfl) ?_ ?_
          · intro t ht
            rcases List.mem_append.mp ht with ht | ht
            · rcases List.mem_append.mp ht with ht | ht
              · exact htr0 _ tk H8 b28 t ht
              · cases List.mem_singleton.mp ht
                exact th4.same (SH5.trans (S6.trans (S7.trans S8)))
            · exact htr0 _ dk H8 b28 t ht
          · rw [List.map_append, List.map_append]
            refine (((wsp.1.mono (by omega) (Nat.le_refl _) (by omega)).app (Wgs.cons (w4.mono (by omega) (Nat.le_refl _) (Nat.le_refl _)) (Wgs.nil (c := 0)))).app (wsp.2.mono (by omega) (Nat.le_refl _) (by omega))).mono (Nat.le_refl _) (by omega) (Nat.le_refl _)
        try walk_at "go"
        refine ite2 (fun c5 => ?_) (fun c5 => ?_)
        · try walk_at "go"
          intro T1 H3 S3 o3
          rw [cut_toU, ← List.map_take] at o3
          have a3 := S3 _ _ ha2
          try walk_at "go"
          intro T2 H4 S4 o4
          rw [at1, cut_midU _ _ (by rw [lm]; exact atl), Nat.add_sub_cancel_left, ← List.map_drop, ← List.map_take] at o4
          have o34 := S4 _ _ o3
          have a4 := S4 _ _ a3
          try walk_at "go"
          intro T3 H5 S5 o5
          have a5 := S5 _ _ a4
          try walk_at "go"
          intro T4 H6 S6 o6
          rw [cut_fromU, ← List.map_drop] at o6
          have o56 := S6 _ _ o5
          try walk_at "go"
          intro T5 H7 S7 o7
          have SS := S3.trans (S4.trans (S5.trans (S6.trans S7)))
          refine endT (tr.take at' ++ (tr.drop at').take 1 ++ tr.drop at') T5 H7 (same_but SS) (p2.same SS) (by rw [o7, List.map_append, List.map_append] <;> rfl) ?_ ?_
          · intro t ht
            rcases List.mem_append.mp ht with ht | ht
            · rcases List.mem_append.mp ht with ht | ht
              · exact htr0 _ tk H7 (same_but SS) t ht
              · exact htr0 _ dk2 H7 (same_but SS) t ht
            · exact htr0 _ dk H7 (same_but SS) t ht
          · rw [List.map_append, List.map_append]
            have z1 := Wgs.sub (xs := (tr.take at').map fun t => t.2) (ys := (tr.drop at').map fun t => t.2) (n := N - 1) (c := c - 4) (b := b) (by rw [← List.map_append, List.take_append_drop]; exact hun)
            have z2 : wts ((tr.take at').map fun t => t.2) + wts ((tr.drop at').map fun t => t.2) ≤ c - 4 := by
              have := hun.len
              rw [← List.take_append_drop at' tr, List.map_append, wts_app] at this
              exact this
            refine (((wsp.1.ex.mono (by omega) (Nat.le_refl _) (by omega)).app (wsp2.mono (by omega) (Nat.le_refl _) (by omega))).app (wsp.2.ex.mono (by omega) (Nat.le_refl _) (by omega))).mono (Nat.le_refl _) (by omega) (Nat.le_refl _)
        try walk_at "go"
        have del : ∀ (T1 T2 T3 : Addr) (H' : Hp), Same H2 H' → H' T3 = some (.tup (((tr.take at').map fun t => t.1) ++ ((tr.drop (at' + 1)).map fun t => t.1))) → Q (.ref T3) H' := fun T1 T2 T3 H' SS o => by
          refine endT (tr.take at' ++ tr.drop (at' + 1)) T3 H' (same_but SS) (p2.same SS) (by rw [o, List.map_append]) ?_ ?_
          · intro t ht
            rcases List.mem_append.mp ht with ht | ht
            · exact htr0 _ tk H' (same_but SS) t ht
            · exact htr0 _ dk1 H' (same_but SS) t ht
          · rw [List.map_append]
            refine ((wsp.1.mono (by omega) (Nat.le_refl _) (by omega)).app (wsp1.mono (by omega) (Nat.le_refl _) (by omega))).mono (Nat.le_refl _) (by omega) (Nat.le_refl _)
        refine ite2 (fun c6 => ?_) (fun c6 => ?_)
        · refine ifT rfl ?_
          try walk_at "go"
          intro T1 H3 S3 o3
          rw [cut_toU, ← List.map_take] at o3
          have a3 := S3 _ _ ha2
          try walk_at "go"
          intro T2 H4 S4 o4
          rw [at1, cut_fromU, ← List.map_drop] at o4
          have o34 := S4 _ _ o3
          try walk_at "go"
          intro T3 H5 S5 o5
          exact del T1 T2 T3 H5 (S3.trans (S4.trans S5)) o5
        try walk_at "go"
        refine ite2 (fun c7 => ?_) (fun c7 => ?_)
        · try walk_at "go"
          intro T1 H3 S3 o3
          rw [cut_toU, ← List.map_take] at o3
          have a3 := S3 _ _ ha2
          try walk_at "go"
          intro T2 H4 S4 o4
          rw [at1, cut_fromU, ← List.map_drop] at o4
          have o34 := S4 _ _ o3
          try walk_at "go"
          intro T3 H5 S5 o5
          exact del T1 T2 T3 H5 (S3.trans (S4.trans S5)) o5
        have atl2 : at' < tr.length := Nat.lt_of_le_of_ne atl fun z => c7 (by rw [lm, z]; exact decide_eq_true rfl)
        try walk_at "go"
        intro T1 H3 S3 o3
        rw [cut_toU, ← List.map_take] at o3
        have a3 := S3 _ _ ha2
        have p3 := p2.same S3
        have ix : atI (tr.map fun t => t.1) (at' : Int) = some tr[at'].1 := atI_nat (by rw [List.getElem?_map, List.getElem?_eq_getElem atl2] <;> rfl)
        have wm := (hun.mem (List.mem_map_of_mem (f := fun t => t.2) (List.getElem_mem atl2))).ex
        have th3 := (htr2 _ (List.getElem_mem atl2)).same S3
        have so3 : SetOf S p H3 := so1.but (be2.trans (same_but S3)) p3
        try walk_at "go"
        refine ⟨(show [V.ref p, tr[at'].1, V.int ((k : Int) - 1)] = [V.ref p, tr[at'].1, V.int ((k - 1 : Nat) : Int)] by rw [show (k : Int) - 1 = ((k - 1 : Nat) : Int) by omega]), p3, so3, th3, wm, by omega, by omega, b1, b2, ?_, fun v' d' H4 b4 p4 th4 w4 => ?_⟩
        · have := (hun.mem (List.mem_map_of_mem (f := fun t => t.2) (List.getElem_mem atl2))).len
          omega
        have N1 : 1 ≤ N := Nat.le_trans (Nat.le_add_left _ _) (show PyData.depthAll (tr.map fun t => t.2) + 1 ≤ N from hw.dep)
        have a4 := pot_keep b4 p3 _ _ a3
        have o4 := pot_keep b4 p3 _ _ o3
        try walk_at "go"
        intro U hU
        generalize eH5 : upd _ U _ = H5
        have SH5 := newS eH5 hU
        have oU := newO eH5
        have o5 := SH5 _ _ o4
        try walk_at "go"
        intro T2 H6 S6 o6
        try walk_at "go"
        intro T3 H7 S7 o7
        rw [at1, cut_fromU, ← List.map_drop] at o7
        have o67 := S7 _ _ o6
        try walk_at "go"
        intro T4 H8 S8 o8
        have SS := SH5.trans (S6.trans (S7.trans S8))
        have b28 := (same_but S3).trans (b4.trans (same_but SS))
        refine endT (tr.take at' ++ [(v', d')] ++ tr.drop (at' + 1)) T4 H8 b28 (p4.same SS) (by rw [o8, List.map_append, List.map_append] <;> rfl) ?_ ?_
        · intro t ht
          rcases List.mem_append.mp ht with ht | ht
          · rcases List.mem_append.mp ht with ht | ht
            · exact htr0 _ tk H8 b28 t ht
            · cases List.mem_singleton.mp ht
              exact th4.same SS
          · exact htr0 _ dk1 H8 b28 t ht
        · have z2 : wts ((tr.take at').map fun t => t.2) + (wt tr[at'].2 + 4 + wts ((tr.drop (at' + 1)).map fun t => t.2)) ≤ c - 4 := by
            have := hun.len
            rw [← List.take_append_drop at' tr, List.map_append, wts_app, List.drop_eq_getElem_cons atl2] at this
            exact this
          have w5 := w4.ex.len
          have w6 : wt d' ≤ 2 * wt tr[at'].2 + 40000 := w4.len
          rw [List.map_append, List.map_append]
          exact (((wsp.1.ex.mono (by omega) (Nat.le_refl _) (by omega)).app (Wgs.cons (w4.ex.mono (by omega) (Nat.le_refl _) (Nat.le_refl _)) (Wgs.nil (c := 0)))).app (wsp1.ex.mono (by omega) (Nat.le_refl _) (by omega))).mono (Nat.le_refl _) (by omega) (Nat.le_refl _)
theorem k__law_bent (D : Df K mg "_law_bent" s__law_bent ["_law_pot_here", "_law_thing", "_law_deep"]) (D__law_draw : Dn P w K mg base 1 "_law_draw" ["_law_pot_here", "_law_many"] spTake) (D__law_other : Dn P w K mg base 3 "_law_other" ["_law_pot_here", "_law_thing"] (spOther K)) : Dn P w K mg base 45 "_law_bent" ["_law_pot_here", "_law_thing", "_law_deep"] ((spBent K) 41) := k__law_bent_rec B D D__law_draw D__law_other 41
/-! SPLIT -/
def spLDeedT (K : PySem.W.Frag) : Sp := fun vs H Q _ => ∃ (v : V) (d : PyData) (p : Addr), vs = [v] ∧ Th K p H v d ∧ ∀ H', Same H H' → Q (.bl (isDd d)) H'
theorem k__law_is_deed (D : Df K mg "_law_is_deed" s__law_is_deed ["_law_thing"]) (D__law_is_whole : Dn P w K mg base 1 "_law_is_whole" ["_law_thing"] (spWhT2 K)) : Dn P w K mg base 3 "_law_is_deed" ["_law_thing"] (spLDeedT K) := by
  refine D.ok fun f fd F => okG0 F sc__law_is_deed (fun vs H Q E h => ?_) (fun cdv A outer s H vs Q E hr h => ⟨_, (pss_cons (ps_if (PW.pt (pw_or (pt_not (pt_val (pe_callB (kk (K := K) (F := rIsi) (P := CallR _ _) call_isi) (by rfl) B.isinstance_ (by decide +kernel) (pa_cons (pv 0) (pa_cons (pe_bltn (v := .ty "tuple") (u := .type "tuple") (by rfl) B.tuple_ (by decide +kernel) rfl) pa_nil))))) (pw_or (pt_cmpR op_ne (pe_callB (lenK (K := K)) (by rfl) B.len_ (by decide +kernel) (pa_cons (pv 0) pa_nil)) pe_int (nomark _)) (pw_or1 (pt_not (pt_val (pe_cD D__law_is_whole (hr.less (by decide)) rfl (pa_cons (pe_ix (kk (K := K) (F := rIxT) (P := IxR _) ix_tup) (pv 0) pe_int (fun _ _ => rfl)) pa_nil))))))))
      (pss_one (ps_ret pe_bl))
      pss_nil)
    (pss_cons (ps_if (pt_not (pt_val (pe_callB (kk (K := K) (F := rAll) (P := CallR _ _) (cr_all rfl)) (by rfl) B.all_ (by decide +kernel) (pa_cons (pe_lc (own := [("_law_end", 1)]) (g := gName 1) (tt := tYes) rfl sc__law_is_deed.nd (kk (K := K) (F := fun K => iTup K _) (P := PI _ _ _) (pi_tup (pe_slice sl_tupU (pv 0) (po_some pe_int) po_none))) (blkOk_by (own := [("_law_end", 1)]) (N := ["_law_thing", "_law_end"]) (sc := defScope s__law_is_deed) (by decide +kernel)) (fun _ _ _ _ _ => (pg_name (i := 1) sc__law_is_deed.nd rfl (Or.inl rfl))) (fun _ _ _ _ _ => pts_nil) (fun _ _ _ _ _ => (pe_or (pe_cmpR op_isN (pv 1) pe_non (nomark _)) (pe_one (pe_cD D__law_is_whole (hr.less (by decide)) rfl (pa_cons (pv 1) pa_nil)))))) pa_nil))))
      (pss_one (ps_ret pe_bl))
      pss_nil)
    (pss_cons (ps_if (pt_cmpR (kk (K := K) (F := fun K => rIn K false) (P := OpR _ _) op_in_seq) pe_non (pe_slice sl_tupU (pv 0) (po_some pe_int) po_none) (by rfl))
      (pss_one (ps_ret pe_bl))
      pss_nil)
    (pss_one (ps_ret (pe_or (pe_cmpR op_lt (pe_ix (kk (K := K) (F := rIxT) (P := IxR _) ix_tup) (pv 0) pe_int (fun _ _ => rfl)) (pe_ix (kk (K := K) (F := rIxT) (P := IxR _) ix_tup) (pv 0) pe_int (fun _ _ => rfl)) (nomark _)) (pe_one (pe_and (pe_cmpR op_eq (pe_ix (kk (K := K) (F := rIxT) (P := IxR _) ix_tup) (pv 0) pe_int (fun _ _ => rfl)) (pe_ix (kk (K := K) (F := rIxT) (P := IxR _) ix_tup) (pv 0) pe_int (fun _ _ => rfl)) (nomark _)) (pe_one (pe_cmpR op_eq (pe_ix (kk (K := K) (F := rIxT) (P := IxR _) ix_tup) (pv 0) pe_int (fun _ _ => rfl)) pe_int (nomark _))))))))))), ?_⟩)
  · obtain ⟨v, d, p, rfl, _⟩ := h; rfl
  · obtain ⟨v, d, p, rfl, hd, q⟩ := h
    have ty := hd.ty
    have k1 := kit_tu (K := K) d
    cases e0 : isN 3 d with
    | false =>
      rw [isDd_no e0] at q
      cases ed : isTu d with
      | false =>
        rw [ed] at k1
        try walk_at "go"
        refine ifT rfl ?_
        try walk_at "go"
        exact q _ (Same.refl _)
      | true =>
        rw [ed] at k1
        obtain ⟨ds, rfl⟩ := isTu_inv ed
        obtain ⟨a, tr, rfl, rfl, ha, htr⟩ := hd.tup_inv
        have l3 : (tr.map fun t => t.1).length ≠ 3 := fun z => by
          have e0 : decide ((tr.map fun t => t.2).length = 3) = false := e0
          rw [len_map2] at e0
          rw [len_map1] at z
          exact of_decide_eq_false e0 z
        try walk_at "go"
        refine ifT (dec_ne' l3) ?_
        try walk_at "go"
        exact q _ (Same.refl _)
    | true =>
      obtain ⟨ds, rfl, l3⟩ := isN_tu e0
      obtain ⟨a, tr, rfl, rfl, ha, htr⟩ := hd.tup_inv
      rw [len_map2] at l3
      obtain ⟨⟨xv, xd⟩, ⟨yv, yd⟩, ⟨zv, zd⟩, rfl⟩ : ∃ x y z, tr = [x, y, z] := by
        match tr, l3 with
        | [x, y, z], _ => exact ⟨x, y, z, rfl⟩
      have hx : Th K p H xv xd := htr _ List.mem_cons_self
      have hy : Th K p H yv yd := htr _ (List.mem_cons_of_mem _ List.mem_cons_self)
      have hz : Th K p H zv zd := htr _ (List.mem_cons_of_mem _ (List.mem_cons_of_mem _ List.mem_cons_self))
      have ha : H a = some (.tup [xv, yv, zv]) := ha
      have i0 : atI [xv, yv, zv] 0 = some xv := rfl
      have i1 : atI [xv, yv, zv] 1 = some yv := rfl
      have i2 : atI [xv, yv, zv] 2 = some zv := rfl
      replace q : ∀ H', Same H H' → Q (.bl (isWh xd && (isEnd yd && (isEnd zd && okE xd yd zd)))) H' := q
      have k1 : PySem.W.kitOne K (.type (tyD (.tuple [xd, yd, zd]))) (.type "tuple") = some true := k1
      have ty : TyX K H (.ref a) (.type (tyD (.tuple [xd, yd, zd]))) := ty
      try walk_at "go"
      cases e1 : isWh xd with
      | false =>
        rw [e1] at q
        refine ifT rfl ?_
        try walk_at "go"
        exact q _ (Same.refl _)
      | true =>
      rw [e1] at q
      refine ifF rfl ?_
      try walk_at "go"
      intro T H1 S1 oT
      have oT : H1 T = some (.tup [yv, zv]) := oT
      try walk_at "go"
      intro D hD
      refine lc_tup (K := K) (a := T) (xs := [yv, zv]) (fun i H' => Kept (Same H1 H' ∧ H' D = some (.lst ((([isEnd yd, isEnd zd]).take i).map V.bl)))) ⟨same_new hD _, upd_same⟩ (fun i H' _ h => SqT.of (h.ex.1 _ _ oT)) ?_ ?_
      · rintro i y H2 hi ⟨S2, hD2⟩
        have hyz : ∃ d2, Th K p H2 y d2 ∧ [isEnd yd, isEnd zd][i]? = some (isEnd d2) := by
          match i, hi with
          | 0, hi => cases (Option.some.inj hi); exact ⟨yd, hy.same (S1.trans S2), rfl⟩
          | 1, hi => cases (Option.some.inj hi); exact ⟨zd, hz.same (S1.trans S2), rfl⟩
          | n + 2, hi => simp at hi
        obtain ⟨d2, h2, h3⟩ := hyz
        have ln : ((([isEnd yd, isEnd zd]).take i).map V.bl).length ≤ 2 := by rw [List.length_map, List.length_take]; show min i 2 ≤ 2; omega
        have e4 := h2.no_dec
        have fin : ∀ b : Bool, isEnd d2 = b → Kept (Same H1 (upd H2 D (.lst ((([isEnd yd, isEnd zd]).take i).map V.bl ++ [V.bl b]))) ∧ (upd H2 D (.lst ((([isEnd yd, isEnd zd]).take i).map V.bl ++ [V.bl b]))) D = some (.lst ((([isEnd yd, isEnd zd]).take (i + 1)).map V.bl))) := fun b e => ⟨but_same hD S2 But.upd, by rw [upd_same, List.take_succ, h3, e, List.map_append] <;> rfl⟩
        try walk_at "go"
        rw [e4]
        cases e5 : isNo d2 with
        | true =>
          refine ifT rfl ?_
          try walk_at "go"
          exact fin true (by unfold isEnd; rw [e5] <;> rfl)
        | false =>
          refine ifF rfl ?_
          try walk_at "go"
          exact fin (isWh d2) (by unfold isEnd; rw [e5] <;> rfl)
      · rintro H2 ⟨S2, hD2⟩
        try walk_at "go"
        cases e2 : isEnd yd with
        | false =>
          rw [e2] at q
          refine ifT rfl ?_
          try walk_at "go"
          exact q _ (S1.trans S2)
        | true =>
        cases e3 : isEnd zd with
        | false =>
          rw [e2, e3] at q
          refine ifT rfl ?_
          try walk_at "go"
          exact q _ (S1.trans S2)
        | true =>
        rw [e2, e3] at q
        refine ifF rfl ?_
        obtain ⟨i, rfl⟩ := isWh_inv e1
        cases hx.int_inv
        have eno : ∀ {v : V} {d : PyData}, Th K p H v d → isEnd d = true → (v = .non ∧ d = .none) ∨ ∃ j, v = .int j ∧ d = .int j := fun {v d} h e => by
          cases h with
          | non => exact .inl ⟨rfl, rfl⟩
          | int j => exact .inr ⟨j, rfl, rfl⟩
          | _ => cases e
        have ha2 := S2 _ _ (S1 _ _ ha)
        rcases eno hy e2 with ⟨rfl, rfl⟩ | ⟨l, rfl, rfl⟩
        · rcases eno hz e3 with ⟨rfl, rfl⟩ | ⟨u, rfl, rfl⟩
          · try walk_at "go"
            intro T2 H3 S3 oT2
            replace oT2 : H3 T2 = some (.tup [.non, .non]) := oT2
            have ff : [V.non, V.non].all flatV = true := rfl
            try walk_at "go"
            refine ifT rfl ?_
            try walk_at "go"
            exact q _ (S1.trans (S2.trans S3))
          · try walk_at "go"
            intro T2 H3 S3 oT2
            replace oT2 : H3 T2 = some (.tup [.non, .int u]) := oT2
            have ff : [V.non, V.int u].all flatV = true := rfl
            try walk_at "go"
            refine ifT rfl ?_
            try walk_at "go"
            exact q _ (S1.trans (S2.trans S3))
        · rcases eno hz e3 with ⟨rfl, rfl⟩ | ⟨u, rfl, rfl⟩
          · try walk_at "go"
            intro T2 H3 S3 oT2
            replace oT2 : H3 T2 = some (.tup [.int l, .non]) := oT2
            have ff : [V.int l, V.non].all flatV = true := rfl
            try walk_at "go"
            refine ifT rfl ?_
            try walk_at "go"
            exact q _ (S1.trans (S2.trans S3))
          · replace q : ∀ H', Same H H' → Q (.bl (decide (l < u) || (decide (l = u) && decide (i = 0)))) H' := q
            try walk_at "go"
            intro T2 H3 S3 oT2
            replace oT2 : H3 T2 = some (.tup [.int l, .int u]) := oT2
            have ff : [V.int l, V.int u].all flatV = true := rfl
            have ha3 := S3 _ _ ha2
            replace q := q _ (S1.trans (S2.trans S3))
            try walk_at "go"
            refine ite2 (fun c1 => ?_) (fun c1 => ?_)
            · rw [c1, Bool.true_or] at q
              exact q
            · rw [Bool.eq_false_iff.mpr c1, Bool.false_or] at q
              try walk_at "go"
              by_cases c2 : l = u
              · rw [decide_eq_true c2, Bool.true_and] at q
                refine ifT (decide_eq_true (by rw [c2])) ?_
                try walk_at "go"
                have e4 : decide (V.int i = V.int 0) = decide (i = 0) := by
                  by_cases c3 : i = 0
                  · rw [decide_eq_true c3, c3, decide_eq_true rfl]
                  · rw [decide_eq_false c3, decide_eq_false fun z => c3 (V.int.inj z)]
                rw [← e4] at q
                exact q
              · rw [decide_eq_false c2, Bool.false_and] at q
                refine ifF (decide_eq_false fun z => c2 (V.int.inj z)) ?_
                exact q
def spLBdT (K : PySem.W.Frag) : Sp := fun vs H Q _ => ∃ (v : V) (d : PyData) (p : Addr), vs = [v] ∧ Th K p H v d ∧ ∀ H', Same H H' → Q (.bl (isBd d)) H'
theorem k__law_is_board (D : Df K mg "_law_is_board" s__law_is_board ["_law_thing"]) (D__law_is_whole : Dn P w K mg base 1 "_law_is_whole" ["_law_thing"] (spWhT2 K)) : Dn P w K mg base 2 "_law_is_board" ["_law_thing"] (spLBdT K) := by
  refine D.ok fun f fd F => okG0 F sc__law_is_board (fun vs H Q E h => ?_) (fun cdv A outer s H vs Q E hr h => ⟨_, (pss_cons (ps_if (PW.pt (pw_or (pt_not (pt_val (pe_callB (kk (K := K) (F := rIsi) (P := CallR _ _) call_isi) (by rfl) B.isinstance_ (by decide +kernel) (pa_cons (pv 0) (pa_cons (pe_bltn (v := .ty "tuple") (u := .type "tuple") (by rfl) B.tuple_ (by decide +kernel) rfl) pa_nil))))) (pw_or (pt_cmpR op_lt (pe_callB (lenK (K := K)) (by rfl) B.len_ (by decide +kernel) (pa_cons (pv 0) pa_nil)) pe_int (nomark _)) (pw_or1 (pt_cmpR op_gt (pe_callB (lenK (K := K)) (by rfl) B.len_ (by decide +kernel) (pa_cons (pv 0) pa_nil)) pe_int (nomark _))))))
      (pss_one (ps_ret pe_bl))
      pss_nil)
    (pss_one (ps_ret (pe_callB (kk (K := K) (F := rAll) (P := CallR _ _) (cr_all rfl)) (by rfl) B.all_ (by decide +kernel) (pa_cons (pe_lc (own := [("_law_value", 1)]) (g := gName 1) (tt := tYes) rfl sc__law_is_board.nd (kk (K := K) (F := fun K => iTup K _) (P := PI _ _ _) (pi_tup (pv 0))) (blkOk_by (own := [("_law_value", 1)]) (N := ["_law_thing", "_law_value"]) (sc := defScope s__law_is_board) (by decide +kernel)) (fun _ _ _ _ _ => (pg_name (i := 1) sc__law_is_board.nd rfl (Or.inl rfl))) (fun _ _ _ _ _ => pts_nil) (fun _ _ _ _ _ => (pe_cD D__law_is_whole (hr.less (by decide)) rfl (pa_cons (pv 1) pa_nil)))) pa_nil))))), ?_⟩)
  · obtain ⟨v, d, p, rfl, _⟩ := h; rfl
  · obtain ⟨v, d, p, rfl, hd, q⟩ := h
    have ty := hd.ty
    have k1 := kit_tu (K := K) d
    cases ed : isTu d with
    | false =>
      rw [ed] at k1
      rw [isBd_no ed] at q
      try walk_at "go"
      refine ifT rfl ?_
      try walk_at "go"
      exact q _ (Same.refl _)
    | true =>
      rw [ed] at k1
      obtain ⟨ds, rfl⟩ := isTu_inv ed
      obtain ⟨a, tr, rfl, rfl, ha, htr⟩ := hd.tup_inv
      have eb : isBd (.tuple (tr.map fun t => t.2)) = (decide (1 ≤ tr.length) && (decide (tr.length ≤ 16) && (tr.map fun t => t.2).all isWh)) := by
        show (decide (1 ≤ (tr.map fun t => t.2).length) && (decide ((tr.map fun t => t.2).length ≤ 16) && _)) = _
        rw [len_map2]
      rw [eb] at q
      try walk_at "go"
      refine ite2 (fun c1 => ?_) (fun c1 => ?_)
      · have c1' : ¬ 1 ≤ tr.length := by have := of_decide_eq_true c1; rw [len_map1] at this; omega
        rw [decide_eq_false c1', Bool.false_and] at q
        try walk_at "go"
        exact q _ (Same.refl _)
      have c1' : 1 ≤ tr.length := Nat.lt_of_not_le fun z => c1 (decide_eq_true (by rw [len_map1]; omega))
      rw [decide_eq_true c1', Bool.true_and] at q
      try walk_at "go"
      refine ite2 (fun c2 => ?_) (fun c2 => ?_)
      · have c2' : ¬ tr.length ≤ 16 := by have := of_decide_eq_true c2; rw [len_map1] at this; omega
        rw [decide_eq_false c2', Bool.false_and] at q
        try walk_at "go"
        exact q _ (Same.refl _)
      have c2' : tr.length ≤ 16 := Nat.le_of_not_lt fun z => c2 (decide_eq_true (by rw [len_map1]; omega))
      rw [decide_eq_true c2', Bool.true_and] at q
      try walk_at "go"
      intro D hD
      refine lc_tup (K := K) (a := a) (xs := tr.map fun t => t.1) (fun i H' => Kept (Same H H' ∧ H' D = some (.lst (((tr.take i).map fun t => isWh t.2).map V.bl)))) ⟨same_new hD _, upd_same⟩ (fun i H' _ h => SqT.of (h.ex.1 _ _ ha)) ?_ ?_
      · rintro i y H2 hi ⟨S2, hD2⟩
        rw [List.getElem?_map] at hi
        obtain ⟨t, ht, rfl⟩ := Option.map_eq_some_iff.mp hi
        have th2 := (htr t (List.mem_of_getElem? ht)).same S2
        have ln : (((tr.take i).map fun t => isWh t.2).map V.bl).length ≤ 100 := by rw [List.length_map, List.length_map, List.length_take]; omega
        try walk_at "go"
        exact ⟨⟨but_same hD S2 But.upd, by rw [upd_same, take_snocB isWh ht]⟩⟩
      · rintro H2 ⟨S2, hD2⟩
        try walk_at "go"
        rw [take_all]
        exact q _ S2
def spLAkT (K : PySem.W.Frag) : Sp := fun vs H Q _ => ∃ (b : Addr) (bv : List V) (v : V) (d : PyData) (p : Addr), vs = [.ref b, v] ∧ H b = some (.tup bv) ∧ bv.length ≤ 16 ∧ Th K p H v d ∧ ∀ H', Same H H' → Q (.bl (isAk bv.length d)) H'
theorem k__law_is_ask (D : Df K mg "_law_is_ask" s__law_is_ask ["_law_board_here", "_law_thing"]) (D__law_is_whole : Dn P w K mg base 1 "_law_is_whole" ["_law_thing"] (spWhT2 K)) (D__law_is_deed : Dn P w K mg base 3 "_law_is_deed" ["_law_thing"] (spLDeedT K)) : Dn P w K mg base 4 "_law_is_ask" ["_law_board_here", "_law_thing"] (spLAkT K) := by
  refine D.ok fun f fd F => okG0 F sc__law_is_ask (fun vs H Q E h => ?_) (fun cdv A outer s H vs Q E hr h => ⟨_, (pss_cons (ps_if (PW.pt (pw_or (pt_not (pt_val (pe_callB (kk (K := K) (F := rIsi) (P := CallR _ _) call_isi) (by rfl) B.isinstance_ (by decide +kernel) (pa_cons (pv 1) (pa_cons (pe_bltn (v := .ty "tuple") (u := .type "tuple") (by rfl) B.tuple_ (by decide +kernel) rfl) pa_nil))))) (pw_or (pt_cmpR op_ne (pe_callB (lenK (K := K)) (by rfl) B.len_ (by decide +kernel) (pa_cons (pv 1) pa_nil)) pe_int (nomark _)) (pw_or1 (pt_not (pt_val (pe_callB (kk (K := K) (F := rAll) (P := CallR _ _) (cr_all rfl)) (by rfl) B.all_ (by decide +kernel) (pa_cons (pe_lc (own := [("_law_one", 2)]) (g := gName 2) (tt := tYes) rfl sc__law_is_ask.nd (kk (K := K) (F := fun K => iTup K _) (P := PI _ _ _) (pi_tup (pe_slice sl_tupU (pv 1) po_none (po_some pe_int)))) (blkOk_by (own := [("_law_one", 2)]) (N := ["_law_board_here", "_law_thing", "_law_one"]) (sc := defScope s__law_is_ask) (by decide +kernel)) (fun _ _ _ _ _ => (pg_name (i := 2) sc__law_is_ask.nd rfl (Or.inl rfl))) (fun _ _ _ _ _ => pts_nil) (fun _ _ _ _ _ => (pe_cD D__law_is_whole (hr.less (by decide)) rfl (pa_cons (pv 2) pa_nil)))) pa_nil))))))))
      (pss_one (ps_ret pe_bl))
      pss_nil)
    (pss_one (ps_ret (pe_and (pe_chain op_le op_lt pe_int (pe_ix (kk (K := K) (F := rIxT) (P := IxR _) ix_tup) (pv 1) pe_int (fun _ _ => rfl)) pe_int) (pe_and (pe_chain op_le op_lt pe_int (pe_ix (kk (K := K) (F := rIxT) (P := IxR _) ix_tup) (pv 1) pe_int (fun _ _ => rfl)) (pe_callB (lenK (K := K)) (by rfl) B.len_ (by decide +kernel) (pa_cons (pv 0) pa_nil))) (pe_one (pe_cD D__law_is_deed (hr.less (by decide)) rfl (pa_cons (pe_ix (kk (K := K) (F := rIxT) (P := IxR _) ix_tup) (pv 1) pe_int (fun _ _ => rfl)) pa_nil)))))))), ?_⟩)
  · obtain ⟨b, bv, v, d, p, rfl, _⟩ := h; rfl
  · obtain ⟨b, bv, v, d, p, rfl, hb, h16, hd, q⟩ := h
    have ty := hd.ty
    have k1 := kit_tu (K := K) d
    cases e0 : isN 3 d with
    | false =>
      rw [isAk_no e0] at q
      cases ed : isTu d with
      | false =>
        rw [ed] at k1
        try walk_at "go"
        refine ifT rfl ?_
        try walk_at "go"
        exact q _ (Same.refl _)
      | true =>
        rw [ed] at k1
        obtain ⟨ds, rfl⟩ := isTu_inv ed
        obtain ⟨a, tr, rfl, rfl, ha, htr⟩ := hd.tup_inv
        have l3 : (tr.map fun t => t.1).length ≠ 3 := fun z => by
          have e0 : decide ((tr.map fun t => t.2).length = 3) = false := e0
          rw [len_map2] at e0
          rw [len_map1] at z
          exact of_decide_eq_false e0 z
        try walk_at "go"
        refine ifT (dec_ne' l3) ?_
        try walk_at "go"
        exact q _ (Same.refl _)
    | true =>
      obtain ⟨ds, rfl, l3⟩ := isN_tu e0
      obtain ⟨a, tr, rfl, rfl, ha, htr⟩ := hd.tup_inv
      rw [len_map2] at l3
      obtain ⟨⟨xv, xd⟩, ⟨yv, yd⟩, ⟨zv, zd⟩, rfl⟩ : ∃ x y z, tr = [x, y, z] := by
        match tr, l3 with
        | [x, y, z], _ => exact ⟨x, y, z, rfl⟩
      have hx : Th K p H xv xd := htr _ List.mem_cons_self
      have hy : Th K p H yv yd := htr _ (List.mem_cons_of_mem _ List.mem_cons_self)
      have hz : Th K p H zv zd := htr _ (List.mem_cons_of_mem _ (List.mem_cons_of_mem _ List.mem_cons_self))
      replace ha : H a = some (.tup [xv, yv, zv]) := ha
      have i0 : atI [xv, yv, zv] 0 = some xv := rfl
      have i1 : atI [xv, yv, zv] 1 = some yv := rfl
      have i2 : atI [xv, yv, zv] 2 = some zv := rfl
      replace q : ∀ H', Same H H' → Q (.bl (isWh xd && (isWh yd && ((decide (0 ≤ wnD xd) && decide (wnD xd < 16)) && ((decide (0 ≤ wnD yd) && decide (wnD yd < (bv.length : Int))) && isDd zd))))) H' := q
      replace k1 : PySem.W.kitOne K (.type (tyD (.tuple [xd, yd, zd]))) (.type "tuple") = some true := k1
      replace ty : TyX K H (.ref a) (.type (tyD (.tuple [xd, yd, zd]))) := ty
      try walk_at "go"
      intro T H1 S1 oT
      replace oT : H1 T = some (.tup [xv, yv]) := oT
      try walk_at "go"
      intro D hD
      refine lc_tup (K := K) (a := T) (xs := [xv, yv]) (fun i H' => Kept (Same H1 H' ∧ H' D = some (.lst ((([isWh xd, isWh yd]).take i).map V.bl)))) ⟨same_new hD _, upd_same⟩ (fun i H' _ h => SqT.of (h.ex.1 _ _ oT)) ?_ ?_
      · rintro i y H2 hi ⟨S2, hD2⟩
        have hyz : ∃ d2, Th K p H2 y d2 ∧ [isWh xd, isWh yd][i]? = some (isWh d2) := by
          match i, hi with
          | 0, hi => cases (Option.some.inj hi); exact ⟨xd, hx.same (S1.trans S2), rfl⟩
          | 1, hi => cases (Option.some.inj hi); exact ⟨yd, hy.same (S1.trans S2), rfl⟩
          | n + 2, hi => simp at hi
        obtain ⟨d2, h2, h3⟩ := hyz
        have ln : ((([isWh xd, isWh yd]).take i).map V.bl).length ≤ 2 := by rw [List.length_map, List.length_take]; show min i 2 ≤ 2; omega
        try walk_at "go"
        exact ⟨⟨but_same hD S2 But.upd, by rw [upd_same, List.take_succ, h3, List.map_append] <;> rfl⟩⟩
      · rintro H2 ⟨S2, hD2⟩
        try walk_at "go"
        cases e1 : isWh xd with
        | false =>
          rw [e1] at q
          refine ifT rfl ?_
          try walk_at "go"
          exact q _ (S1.trans S2)
        | true =>
        cases e2 : isWh yd with
        | false =>
          rw [e1, e2] at q
          refine ifT rfl ?_
          try walk_at "go"
          exact q _ (S1.trans S2)
        | true =>
        rw [e1, e2] at q
        refine ifF rfl ?_
        obtain ⟨i, rfl⟩ := isWh_inv e1
        obtain ⟨j, rfl⟩ := isWh_inv e2
        cases hx.int_inv
        cases hy.int_inv
        replace q : ∀ H', Same H H' → Q (.bl ((decide (0 ≤ i) && decide (i < 16)) && ((decide (0 ≤ j) && decide (j < (bv.length : Int))) && isDd zd))) H' := q
        have ha2 := S2 _ _ (S1 _ _ ha)
        have hb2 := S2 _ _ (S1 _ _ hb)
        have hz2 := hz.same (S1.trans S2)
        have S02 := S1.trans S2
        try walk_at "go"
        refine ite2 (fun c1 => ?_) (fun c1 => ?_)
        · rw [c1, Bool.true_and] at q
          try walk_at "go"
          refine ite2 (fun c2 => ?_) (fun c2 => ?_)
          · rw [c2, Bool.true_and] at q
            try walk_at "go"
            refine ite2 (fun c3 => ?_) (fun c3 => ?_)
            · rw [c3, Bool.true_and] at q
              try walk_at "go"
              refine ite2 (fun c4 => ?_) (fun c4 => ?_)
              · rw [c4, Bool.true_and] at q
                try walk_at "go"
                intro H3 S3
                exact q _ (S02.trans S3)
              · rw [Bool.eq_false_iff.mpr c4, Bool.false_and] at q
                exact q _ S02
            · rw [Bool.eq_false_iff.mpr c3, Bool.false_and] at q
              try walk_at "go"
              exact q _ S02
          · rw [Bool.eq_false_iff.mpr c2, Bool.false_and] at q
            exact q _ S02
        · rw [Bool.eq_false_iff.mpr c1, Bool.false_and] at q
          try walk_at "go"
          exact q _ S02
def spLAsT (K : PySem.W.Frag) : Sp := fun vs H Q _ => ∃ (b : Addr) (bv : List V) (v : V) (d : PyData) (p : Addr), vs = [.ref b, v] ∧ H b = some (.tup bv) ∧ bv.length ≤ 16 ∧ Th K p H v d ∧ nsz d ≤ 2000000 ∧ ∀ H', Same H H' → Q (.bl (isAs bv.length d)) H'
theorem k__law_are_asks (D : Df K mg "_law_are_asks" s__law_are_asks ["_law_board_here", "_law_thing"]) (D__law_is_ask : Dn P w K mg base 4 "_law_is_ask" ["_law_board_here", "_law_thing"] (spLAkT K)) : Dn P w K mg base 5 "_law_are_asks" ["_law_board_here", "_law_thing"] (spLAsT K) := by
  refine D.ok fun f fd F => okG0 F sc__law_are_asks (fun vs H Q E h => ?_) (fun cdv A outer s H vs Q E hr h => ⟨_, (pss_one (ps_ret (pe_and (pe_callB (kk (K := K) (F := rIsi) (P := CallR _ _) call_isi) (by rfl) B.isinstance_ (by decide +kernel) (pa_cons (pv 1) (pa_cons (pe_bltn (v := .ty "tuple") (u := .type "tuple") (by rfl) B.tuple_ (by decide +kernel) rfl) pa_nil))) (pe_one (pe_callB (kk (K := K) (F := rAll) (P := CallR _ _) (cr_all rfl)) (by rfl) B.all_ (by decide +kernel) (pa_cons (pe_lc (own := [("_law_one", 2)]) (g := gName 2) (tt := tYes) rfl sc__law_are_asks.nd (kk (K := K) (F := fun K => iTup K _) (P := PI _ _ _) (pi_tup (pv 1))) (blkOk_by (own := [("_law_one", 2)]) (N := ["_law_board_here", "_law_thing", "_law_one"]) (sc := defScope s__law_are_asks) (by decide +kernel)) (fun _ _ _ _ _ => (pg_name (i := 2) sc__law_are_asks.nd rfl (Or.inl rfl))) (fun _ _ _ _ _ => pts_nil) (fun _ _ _ _ _ => (pe_cD D__law_is_ask (hr.less (by decide)) rfl (pa_cons (pv 0) (pa_cons (pv 2) pa_nil))))) pa_nil)))))), ?_⟩)
  · obtain ⟨b, bv, v, d, p, rfl, _⟩ := h; rfl
  · obtain ⟨b, bv, v, d, p, rfl, hb, h16, hd, hz, q⟩ := h
    have ty := hd.ty
    have k1 := kit_tu (K := K) d
    cases ed : isTu d with
    | false =>
      rw [ed] at k1
      rw [isAs_no ed] at q
      try walk_at "go"
      first | exact q _ (Same.refl _) | exact ifF rfl (q _ (Same.refl _))
    | true =>
      rw [ed] at k1
      obtain ⟨ds, rfl⟩ := isTu_inv ed
      obtain ⟨a, tr, rfl, rfl, ha, htr⟩ := hd.tup_inv
      try walk_at "go"
      intro D hD
      refine lc_tup (K := K) (a := a) (xs := tr.map fun t => t.1) (fun i H' => Kept (Same H H' ∧ H' D = some (.lst (((tr.take i).map fun t => isAk bv.length t.2).map V.bl)))) ⟨same_new hD _, upd_same⟩ (fun i H' _ h => SqT.of (h.ex.1 _ _ ha)) ?_ ?_
      · rintro i y H2 hi ⟨S2, hD2⟩
        rw [List.getElem?_map] at hi
        obtain ⟨t, ht, rfl⟩ := Option.map_eq_some_iff.mp hi
        have th2 := (htr t (List.mem_of_getElem? ht)).same S2
        have hb2 := S2 _ _ hb
        have ln : (((tr.take i).map fun t => isAk bv.length t.2).map V.bl).length ≤ 2000000 := by
          have h1 := nszs_len (tr.map fun t => t.2)
          have h2 : 1 + nszs (tr.map fun t => t.2) ≤ 2000000 := hz
          rw [len_map2] at h1
          rw [List.length_map, List.length_map, List.length_take]
          omega
        have slz : 3000000 ≤ sizeLine := by decide
        try walk_at "go"
        intro H3 S3
        have hD3 := S3 _ _ hD2
        try walk_at "go"
        exact ⟨⟨but_same hD (S2.trans S3) But.upd, by rw [upd_same, take_snocB (isAk bv.length) ht]⟩⟩
      · rintro H2 ⟨S2, hD2⟩
        try walk_at "go"
        rw [take_all]
        exact q _ S2
def Tr.ex (x y : Nat) : Tr → Tr
  | .leaf n => .leaf (if n = x then y else if n = y then x else n)
  | .node l r => .node (l.ex x y) (r.ex x y)
omit B in
theorem Tr.ex_cnt (x y : Nat) : ∀ t : Tr, (t.ex x y).cnt = t.cnt
  | .leaf _ => rfl
  | .node l r => by show (l.ex x y).cnt + (r.ex x y).cnt = l.cnt + r.cnt; rw [l.ex_cnt, r.ex_cnt]
omit B in
theorem Tr.ex_h (x y : Nat) : ∀ t : Tr, (t.ex x y).h = t.h
  | .leaf _ => rfl
  | .node l r => by show max (l.ex x y).h (r.ex x y).h + 1 = max l.h r.h + 1; rw [l.ex_h, r.ex_h]
omit B in
theorem Tr.ex_big {x y b : Nat} (hx : x ≤ b) (hy : y ≤ b) : ∀ t : Tr, t.big ≤ b → (t.ex x y).big ≤ b
  | .leaf n, h => by
    have h : n ≤ b := h
    show (if n = x then y else if n = y then x else n) ≤ b
    split
    · exact hy
    · split
      · exact hx
      · exact h
  | .node l r, h => by
    have h : max l.big r.big ≤ b := h
    have h1 := Tr.ex_big hx hy l (by omega)
    have h2 := Tr.ex_big hx hy r (by omega)
    show max (l.ex x y).big (r.ex x y).big ≤ b
    omega
def inW (w n : Nat) : Bool := match w with
  | 0 => decide (n = 0)
  | 1 => decide (n = 1)
  | _ => decide (n = 0) || decide (n = 1)
def rowW (w : Nat) : List V := match w with
  | 0 => [.int 0]
  | 1 => [.int 1]
  | _ => [.int 0, .int 1]
omit B in
theorem in_w {w m : Nat} : inV (.int (m : Int)) (rowW w) = inW w m := by
  match w with
  | 0 =>
    show ((0 : Int) == (m : Int) || false) = decide (m = 0)
    rw [Bool.or_false, Bool.eq_iff_iff, beq_iff_eq, decide_eq_true_iff]
    omega
  | 1 =>
    show ((1 : Int) == (m : Int) || false) = decide (m = 1)
    rw [Bool.or_false, Bool.eq_iff_iff, beq_iff_eq, decide_eq_true_iff]
    omega
  | n + 2 =>
    show ((0 : Int) == (m : Int) || ((1 : Int) == (m : Int) || false)) = (decide (m = 0) || decide (m = 1))
    rw [Bool.or_false, Bool.eq_iff_iff, Bool.or_eq_true, Bool.or_eq_true, beq_iff_eq, beq_iff_eq, decide_eq_true_iff, decide_eq_true_iff]
    omega
omit B in
theorem rg_natL {m : Nat} : rgV 0 (m : Int) = ((List.range m).map fun i : Nat => (i : Int)).map V.int := by
  unfold rgV
  rw [List.map_map, Int.sub_zero, Int.toNat_natCast]
  refine List.map_congr_left fun i _ => ?_
  show V.int (0 + (i : Int)) = V.int (i : Int)
  rw [Int.zero_add]
omit B in
theorem eqv1 {m : Nat} : (PyData.int (m : Int)).eqv (PyData.int 1) = decide (m = 1) := by
  show ((m : Int) == 1) = _
  rw [Bool.eq_iff_iff, beq_iff_eq, decide_eq_true_iff]
  omega
def Tr.bt (w : Nat) : Tr → PyData
  | .leaf n => if inW w n then .bool (decide (n = 1)) else .int n
  | .node l r => .tuple [l.bt w, r.bt w]
def TgAt (f : Nat → V) (H : Hp) : V → Tr → Prop
  | v, .leaf n => v = f n
  | v, .node l r => ∃ a x y, v = .ref a ∧ H a = some (.tup [x, y]) ∧ TgAt f H x l ∧ TgAt f H y r
omit B in
theorem TgAt.same {f : Nat → V} {H H' : Hp} (e : Same H H') : ∀ {t : Tr} {v : V}, TgAt f H v t → TgAt f H' v t
  | .leaf _, _, h => h
  | .node l r, _, ⟨a, x, y, h1, h2, h3, h4⟩ => ⟨a, x, y, h1, e _ _ h2, TgAt.same e h3, TgAt.same e h4⟩
omit B in
theorem TgAt.but {f : Nat → V} {p : Addr} {ys : List V} {H H' : Hp} (e : But p H H') (hp : H p = some (.lst ys)) : ∀ {t : Tr} {v : V}, TgAt f H v t → TgAt f H' v t
  | .leaf _, _, h => h
  | .node l r, _, ⟨a, x, y, h1, h2, h3, h4⟩ => ⟨a, x, y, h1, e _ _ (ne_of h2 hp (by intro z; cases z)) h2, TgAt.but e hp h3, TgAt.but e hp h4⟩
def fB (w n : Nat) : V := if inW w n then .bl (decide (n = 1)) else .int n
omit B in
theorem TgAt.th {K : PySem.W.Frag} {p : Addr} {H : Hp} {w : Nat} : ∀ {t : Tr} {v : V}, TgAt (fB w) H v t → Th K p H v (t.bt w)
  | .leaf n, _, h => by
    cases (show _ = fB w n from h)
    show Th K p H (if inW w n then .bl (decide (n = 1)) else .int n) (if inW w n then .bool (decide (n = 1)) else .int n)
    cases inW w n with
    | true => exact .bl _
    | false => exact .int _
  | .node l r, _, ⟨a, x, y, h1, h2, h3, h4⟩ => by
    cases h1
    refine Th.tup (tr := [(x, l.bt w), (y, r.bt w)]) h2 fun t ht => ?_
    simp only [List.mem_cons, List.not_mem_nil, or_false] at ht
    rcases ht with rfl | rfl
    · exact h3.th
    · exact h4.th
omit B in
theorem Tr.bt_sz (w : Nat) : ∀ t : Tr, (t.bt w).depth + 1 ≤ t.h ∧ nsz (t.bt w) ≤ 2 * t.cnt - 1
  | .leaf n => by
    show (if inW w n then PyData.bool (decide (n = 1)) else .int n).depth + 1 ≤ 1 ∧ nsz (if inW w n then PyData.bool (decide (n = 1)) else .int n) ≤ 1
    split
    · exact ⟨Nat.le_refl _, Nat.le_refl _⟩
    · exact ⟨Nat.le_refl _, Nat.le_refl _⟩
  | .node l r => by
    obtain ⟨h1, h2⟩ := l.bt_sz w
    obtain ⟨h3, h4⟩ := r.bt_sz w
    have := l.cnt_pos
    have := r.cnt_pos
    refine ⟨?_, ?_⟩
    · show max (l.bt w).depth (max (r.bt w).depth 0) + 1 + 1 ≤ max l.h r.h + 1
      omega
    · show 1 + (nsz (l.bt w) + (nsz (r.bt w) + 0)) ≤ 2 * (l.cnt + r.cnt) - 1
      omega
omit B in
theorem all_wh {ds : List PyData} (h : ds.all isWh = true) : ∃ is : List Int, ds = is.map PyData.int ∧ ds.map wv = is := by
  induction ds with
  | nil => exact ⟨[], rfl, rfl⟩
  | cons d r ih =>
    rw [List.all_cons, Bool.and_eq_true] at h
    obtain ⟨i, rfl⟩ := isWh_inv h.1
    obtain ⟨is, rfl, e⟩ := ih h.2
    exact ⟨i :: is, rfl, congrArg (i :: ·) e⟩
def spLeaves (K : PySem.W.Frag) (n : Nat) : Sp := fun vs H Q _ => ∃ (v : V) (d : PyData) (p : Addr) (k : Int), vs = [v, .int k] ∧ Th K p H v d ∧ d.depth + 1 ≤ n ∧ (d.depth : Int) ≤ k ∧ nsz d ≤ 1000000 ∧ ∀ (L : Addr) (tr : List (V × PyData)) H', Same H H' → H' L = some (.lst (tr.map fun t => t.1)) → (∀ t ∈ tr, Th K p H' t.1 t.2) → (tr.map fun t => t.2) = lv d → Q (.ref L) H'
theorem _law_leaves_z (vs : List V) (H : Hp) (Q : VK) (E : XK) : ¬ spLeaves K 0 vs H Q E := by
  rintro ⟨v, d, p, k, _, _, h, _⟩
  omega
theorem k__law_leaves_rec (D : Df K mg "_law_leaves" s__law_leaves ["_law_thing", "_law_deep"]) : ∀ n : Nat, Dn P w K mg base (2 + n) "_law_leaves" ["_law_thing", "_law_deep"] ((spLeaves K) n) := by
  intro n
  induction n with
  | zero => exact D.ok fun f fd F => ⟨fun vs H Q E h => (_law_leaves_z B vs H Q E h).elim, fun _ _ _ _ h => (_law_leaves_z B _ _ _ _ h).elim⟩
  | succ n D__law_leaves =>
    refine D.ok fun f fd F => okG0 (k := 2 + n) F sc__law_leaves (fun vs H Q E h => ?_) (fun cdv A outer s H vs Q E hr h => ⟨_, (pss_cons (ps_if (pt_not (pt_val (pe_callB (kk (K := K) (F := rIsi) (P := CallR _ _) call_isi) (by rfl) B.isinstance_ (by decide +kernel) (pa_cons (pv 0) (pa_cons (pe_bltn (v := .ty "tuple") (u := .type "tuple") (by rfl) B.tuple_ (by decide +kernel) rfl) pa_nil)))))
      (pss_one (ps_ret (pe_lst (pa_cons (pv 0) pa_nil))))
      pss_nil)
    (pss_cons (ps_if (PW.pt (pw_or (pt_cmpR op_ne (pe_callB (lenK (K := K)) (by rfl) B.len_ (by decide +kernel) (pa_cons (pv 0) pa_nil)) pe_int (nomark _)) (pw_or1 (pt_cmpR op_eq (pv 1) pe_int (nomark _)))))
      (pss_one (ps_ret (pe_lst (pa_cons pe_non pa_nil))))
      pss_nil)
    (pss_one (ps_ret (pe_op op_cat (pe_cD D__law_leaves (hr.less (by omega)) rfl (pa_cons (pe_ix (kk (K := K) (F := rIxT) (P := IxR _) ix_tup) (pv 0) pe_int (fun _ _ => rfl)) (pa_cons (pe_op op_sub (pv 1) pe_int) pa_nil))) (pe_cD D__law_leaves (hr.less (by omega)) rfl (pa_cons (pe_ix (kk (K := K) (F := rIxT) (P := IxR _) ix_tup) (pv 0) pe_int (fun _ _ => rfl)) (pa_cons (pe_op op_sub (pv 1) pe_int) pa_nil)))))))), ?_⟩)
    · obtain ⟨v, d, p, k, rfl, _⟩ := h; rfl
    · obtain ⟨v, d, p, k, rfl, hd, hn, hk, hz, q⟩ := h
      have ty := hd.ty
      have k1 := kit_tu (K := K) d
      cases ed : isTu d with
      | false =>
        rw [ed] at k1
        try walk_at "go"
        intro L hL
        generalize eH1 : upd _ L _ = H1
        have SH1 := newS eH1 hL
        have oL := newO eH1
        refine q L [(v, d)] H1 SH1 oL (fun t ht => ?_) (lv_leaf ed).symm
        cases List.mem_singleton.mp ht
        exact hd.same SH1
      | true =>
        rw [ed] at k1
        obtain ⟨ds, rfl⟩ := isTu_inv ed
        obtain ⟨a, tr, rfl, rfl, ha, htr⟩ := hd.tup_inv
        have lm : (tr.map fun t => t.1).length = tr.length := List.length_map _
        try walk_at "go"
        refine ite2 (fun cw => ?_) (fun cw => ?_)
        · have ne : tr.length ≠ 2 := fun z => by rw [lm, z] at cw; cases cw
          try walk_at "go"
          intro L hL
          generalize eH1 : upd _ L _ = H1
          have SH1 := newS eH1 hL
          have oL := newO eH1
          refine q L [(.non, .none)] H1 SH1 oL (fun t ht => ?_) (lv_not (by rw [List.length_map]; exact ne)).symm
          cases List.mem_singleton.mp ht
          exact .non
        · have l2 : tr.length = 2 := Decidable.byContradiction fun z => cw (by rw [lm, decide_eq_false fun y => z (by injection y with y; omega)] <;> rfl)
          obtain ⟨x, y, rfl⟩ : ∃ x y, tr = [x, y] := by
            match tr, l2 with
            | [x, y], _ => exact ⟨x, y, rfl⟩
          have ha5 : H a = some (.tup [x.1, y.1]) := ha
          clear ha
          have i1 : atI [x.1, y.1] 1 = some y.1 := rfl
          have i0 : atI [x.1, y.1] 0 = some x.1 := rfl
          have hk' : ((max x.2.depth (max y.2.depth 0) + 1 : Nat) : Int) ≤ k := hk
          have hn' : max x.2.depth (max y.2.depth 0) + 1 + 1 ≤ n + 1 := hn
          have hz' : 1 + (nsz x.2 + (nsz y.2 + 0)) ≤ 1000000 := hz
          have hx := htr x List.mem_cons_self
          have hy := htr y (List.mem_cons_of_mem _ List.mem_cons_self)
          try walk_at "go"
          refine ifF (decide_eq_false fun z => by have := V.int.inj z; omega) ?_
          try walk_at "go"
          intro L1 t1 H1 S1 hL1 th1 lv1
          have hy1 := hy.same S1
          have a1 := S1 _ _ ha5
          try walk_at "go"
          intro L2 t2 H2 S2 hL2 th2 lv2
          have hL12 := S2 _ _ hL1
          have lz1 := lv_nsz x.2
          have lz2 := lv_nsz y.2
          rw [← lv1, List.length_map] at lz1
          rw [← lv2, List.length_map] at lz2
          have ll1 : (t1.map fun t => t.1).length = t1.length := List.length_map _
          have ll2 : (t2.map fun t => t.1).length = t2.length := List.length_map _
          have slz : 3000000 ≤ sizeLine := by decide
          try walk_at "go"
          intro L3 hL3
          generalize eH3 : upd _ L3 _ = H3
          have SH3 := newS eH3 hL3
          have oL3 := newO eH3
          refine q L3 (t1 ++ t2) H3 (S1.trans (S2.trans SH3)) (by rw [oL3, List.map_append]) (fun t ht => ?_) (by rw [List.map_append, lv1, lv2] <;> rfl)
          rcases List.mem_append.mp ht with ht | ht
          · exact (th1 t ht).same (S2.trans SH3)
          · exact (th2 t ht).same SH3
theorem k__law_leaves (D : Df K mg "_law_leaves" s__law_leaves ["_law_thing", "_law_deep"]) : Dn P w K mg base 62 "_law_leaves" ["_law_thing", "_law_deep"] ((spLeaves K) 60) := k__law_leaves_rec B D  60
def spLIsT (K : PySem.W.Frag) : Sp := fun vs H Q _ => ∃ (v : V) (d : PyData) (m : Nat) (p : Addr), vs = [v, .int m] ∧ Th K p H v d ∧ m ≤ 40 ∧ d.depth ≤ 50 ∧ nsz d ≤ 1000000 ∧ ∀ H', Same H H' → Q (.bl (isT d m)) H'
theorem k__law_is_tree (D : Df K mg "_law_is_tree" s__law_is_tree ["_law_thing", "_law_many"]) (D__law_leaves : Dn P w K mg base 62 "_law_leaves" ["_law_thing", "_law_deep"] ((spLeaves K) 60)) (D__law_is_whole : Dn P w K mg base 1 "_law_is_whole" ["_law_thing"] (spWhT2 K)) : Dn P w K mg base 63 "_law_is_tree" ["_law_thing", "_law_many"] (spLIsT K) := by
  refine D.ok fun f fd F => okG0 F sc__law_is_tree (fun vs H Q E h => ?_) (fun cdv A outer s H vs Q E hr h => ⟨_, (pss_cons (ps_set (i := 2) sc__law_is_tree.nd rfl (Or.inl rfl) (pe_cD D__law_leaves (hr.less (by decide)) rfl (pa_cons (pv 0) (pa_cons pe_int pa_nil))))
    (pss_one (ps_ret (pe_and (pe_callB (kk (K := K) (F := rAll) (P := CallR _ _) (cr_all rfl)) (by rfl) B.all_ (by decide +kernel) (pa_cons (pe_lc (own := [("_law_one", 3)]) (g := gName 3) (tt := tYes) rfl sc__law_is_tree.nd (kk (K := K) (F := fun K => iList K _) (P := PI _ _ _) (pi_list (pv 2))) (blkOk_by (own := [("_law_one", 3)]) (N := ["_law_thing", "_law_many", "_law_found", "_law_one"]) (sc := defScope s__law_is_tree) (by decide +kernel)) (fun _ _ _ _ _ => (pg_name (i := 3) sc__law_is_tree.nd rfl (Or.inl rfl))) (fun _ _ _ _ _ => pts_nil) (fun _ _ _ _ _ => (pe_cD D__law_is_whole (hr.less (by decide)) rfl (pa_cons (pv 3) pa_nil)))) pa_nil)) (pe_one (pe_cmpR (kk (K := K) (F := rEqD) (P := OpR _ _) (op_eqD hr.units)) (pv 2) (pe_listRg rfl (by rfl) B.list_ (prg_1 rfl B.range_ (pv 1))) (nomark _))))))), ?_⟩)
  · obtain ⟨v, d, m, p, rfl, _⟩ := h; rfl
  · obtain ⟨v, d, m, p, rfl, hd, m40, hdep, hz, q⟩ := h
    try walk_at "go"
    intro L tr H1 S1 hL htr hlv
    have lm : (tr.map fun t => t.1).length = tr.length := List.length_map _
    have ll : tr.length ≤ 1000000 := by
      have := lv_nsz d
      rw [← hlv, List.length_map] at this
      omega
    try walk_at "go"
    intro D hD
    refine lc_list (K := K) (a := L) (xs := tr.map fun t => t.1) (fun i H' => Kept (Same H1 H' ∧ H' D = some (.lst (((tr.take i).map fun t => isWh t.2).map V.bl)))) ⟨same_new hD _, upd_same⟩ (fun i H' _ h => SqL.of (h.ex.1 _ _ hL)) ?_ ?_
    · rintro i y H2 hi ⟨S2, hD2⟩
      rw [List.getElem?_map] at hi
      obtain ⟨t, ht, rfl⟩ := Option.map_eq_some_iff.mp hi
      have th2 := (htr t (List.mem_of_getElem? ht)).same S2
      have ln : (List.map V.bl (List.map (fun t => isWh t.snd) (List.take i tr))).length ≤ 1000000 := by rw [List.length_map, List.length_map, List.length_take]; omega
      have slz : 3000000 ≤ sizeLine := by decide
      try walk_at "go"
      exact ⟨⟨but_same hD S2 But.upd, by rw [upd_same, List.take_succ, ht, List.map_append, List.map_append] <;> rfl⟩⟩
    · rintro H2 ⟨S2, hD2⟩
      have ea : (tr.map fun t => isWh t.2).all id = (lv d).all isWh := by rw [← hlv, List.all_map, List.all_map] <;> rfl
      rw [lm, List.take_length] at hD2
      try walk_at "go"
      rw [ea]
      cases ew : (lv d).all isWh with
      | false =>
        refine ifF rfl ?_
        have e0 : isT d m = false := by unfold isT; rw [ew, Bool.false_and]
        rw [e0] at q
        exact q _ (S1.trans S2)
      | true =>
        refine ifT rfl ?_
        obtain ⟨is, e1, e2⟩ := all_wh ew
        have e3 : tr.map (fun t => t.1) = is.map V.int := by
          have e4 := hlv.trans e1
          clear hL hD2 ll lm ea e1 e2 ew hlv
          induction tr generalizing is with
          | nil => cases is with
            | nil => rfl
            | cons _ _ => cases e4
          | cons t r ih => cases is with
            | nil => cases e4
            | cons i is =>
              injection e4 with g1 g2
              have th := htr t List.mem_cons_self
              have g1 : t.2 = PyData.int i := g1
              rw [g1] at th
              rw [List.map_cons, List.map_cons, th.int_inv, ih (fun x hx => htr x (List.mem_cons_of_mem _ hx)) is g2]
        rw [e3] at hL
        have hL2 := S2 _ _ hL
        try walk_at "go"
        intro R hR
        generalize eH3 : upd _ R _ = H3
        have SH3 := newS eH3 hR
        have oR := newO eH3
        rw [rg_natL] at oR
        have hL3 := SH3 _ _ hL2
        try walk_at "go"
        show Q (.bl (PyData.eqvAll (is.map PyData.int) (((List.range m).map fun i : Nat => (i : Int)).map PyData.int))) H3
        rw [PySem.W.ked_eqvAll, show decide (is = (List.range m).map fun i : Nat => (i : Int)) = isT d m by unfold isT; rw [ew, e2, Bool.true_and]]
        exact q _ (S1.trans (S2.trans SH3))
def spLT24 (n : Nat) : Sp := fun vs H Q _ => ∃ (p : Addr) (f m : Nat), vs = [.ref p, .int f, .int m] ∧ PotAt H p ∧ 1 ≤ m ∧ m ≤ n ∧ m ≤ 40 ∧ ∀ v t H', But p H H' → PotAt H' p → TrAt H' v t → IsRow t f → t.cnt = m → Q v H'
theorem _law_tree_z (vs : List V) (H : Hp) (Q : VK) (E : XK) : ¬ spLT24 0 vs H Q E := by
  rintro ⟨p, f, m, _, _, h1, h2, _⟩
  omega
theorem k__law_tree_rec (D : Df K mg "_law_tree" s__law_tree ["_law_pot_here", "_law_first", "_law_many"]) (D__law_draw : Dn P w K mg base 1 "_law_draw" ["_law_pot_here", "_law_many"] spTake) : ∀ n : Nat, Dn P w K mg base (2 + n) "_law_tree" ["_law_pot_here", "_law_first", "_law_many"] (spLT24 n) := by
  intro n
  induction n with
  | zero => exact D.ok fun f fd F => ⟨fun vs H Q E h => (_law_tree_z B vs H Q E h).elim, fun _ _ _ _ h => (_law_tree_z B _ _ _ _ h).elim⟩
  | succ n D__law_tree =>
    refine D.ok fun f fd F => okG0 (k := 2 + n) F sc__law_tree (fun vs H Q E h => ?_) (fun cdv A outer s H vs Q E hr h => ⟨_, (pss_cons (ps_if (pt_cmpR op_eq (pv 2) pe_int (nomark _))
      (pss_one (ps_ret (pv 1)))
      pss_nil)
    (pss_cons (ps_set (i := 3) sc__law_tree.nd rfl (Or.inl rfl) (pe_op op_add pe_int (pe_cD D__law_draw (hr.less (by omega)) rfl (pa_cons (pv 0) (pa_cons (pe_op op_sub (pv 2) pe_int) pa_nil)))))
    (pss_one (ps_ret (pe_tup (pa_cons (pe_cD D__law_tree (hr.less (by omega)) rfl (pa_cons (pv 0) (pa_cons (pv 1) (pa_cons (pv 3) pa_nil)))) (pa_cons (pe_cD D__law_tree (hr.less (by omega)) rfl (pa_cons (pv 0) (pa_cons (pe_op op_add (pv 1) (pv 3)) (pa_cons (pe_op op_sub (pv 2) (pv 3)) pa_nil)))) pa_nil))))))), ?_⟩)
    · obtain ⟨p, f, m, rfl, _⟩ := h; rfl
    · obtain ⟨p, f, m, rfl, hp, h1, h2, h40, q⟩ := h
      try walk_at "go"
      refine ite2 (fun c => ?_) (fun c => ?_)
      · have c' : m = 1 := by have := V.int.inj (of_decide_eq_true c); omega
        subst c'
        exact ⟨_, rfl, q _ (.leaf f) _ But.refl hp rfl rfl rfl⟩
      · have c' : m ≠ 1 := fun z => c (by subst z; rfl)
        try walk_at "go"
        intro e0 H1 e1 e2 b1 p1
        obtain ⟨l, hl⟩ : ∃ l : Nat, (1 : Int) + e0 = (l : Int) := ⟨(1 + e0).toNat, by omega⟩
        have l1 : 1 ≤ l := by omega
        have l2 : l + 1 ≤ m := by omega
        try walk_at "go"
        refine ⟨(show [V.ref p, V.int (f : Nat), V.int (1 + e0)] = [V.ref p, V.int (f : Nat), V.int (l : Nat)] by rw [hl]), p1, l1, by omega, by omega, fun v1 t1 H3 b3 p3 k1 k2 k3 => ?_⟩
        try walk_at "go"
        refine ⟨(show [V.ref p, V.int ((f : Int) + (1 + e0)), V.int ((m : Int) - (1 + e0))] = [V.ref p, V.int ((f + l : Nat) : Int), V.int ((m - l : Nat) : Int)] by rw [show (f : Int) + (1 + e0) = ((f + l : Nat) : Int) by omega, show (m : Int) - (1 + e0) = ((m - l : Nat) : Int) by omega]), p3, by omega, by omega, by omega, fun v2 t2 H4 b4 p4 g1 g2 g3 => ?_⟩
        try walk_at "go"
        intro T hT
        generalize eH5 : upd _ T _ = H5
        have SH5 := newS eH5 hT
        have oT := newO eH5
        obtain ⟨_, _, hp3, _⟩ := p3
        refine q _ (.node t1 t2) _ (b1.trans (b3.trans (b4.trans (same_but SH5)))) (p4.same SH5) ⟨T, v1, v2, rfl, oT, (k1.but b4 hp3).same SH5, g1.same SH5⟩ ⟨k2, by rw [k3]; exact g2⟩ ?_
        show t1.cnt + t2.cnt = m
        omega
theorem k__law_tree (D : Df K mg "_law_tree" s__law_tree ["_law_pot_here", "_law_first", "_law_many"]) (D__law_draw : Dn P w K mg base 1 "_law_draw" ["_law_pot_here", "_law_many"] spTake) : Dn P w K mg base 42 "_law_tree" ["_law_pot_here", "_law_first", "_law_many"] (spLT24 40) := k__law_tree_rec B D D__law_draw 40
def spLDs (K : PySem.W.Frag) : Sp := fun vs H Q _ => ∃ (v : V) (d : PyData) (p : Addr), vs = [v] ∧ Th K p H v d ∧ ∀ H', Same H H' → Q (.bl (okDs d)) H'
theorem k__law_are_deeds (D : Df K mg "_law_are_deeds" s__law_are_deeds ["_law_thing"]) (D__law_is_deed : Dn P w K mg base 3 "_law_is_deed" ["_law_thing"] (spLDeedT K)) : Dn P w K mg base 4 "_law_are_deeds" ["_law_thing"] (spLDs K) := by
  refine D.ok fun f fd F => okG0 F sc__law_are_deeds (fun vs H Q E h => ?_) (fun cdv A outer s H vs Q E hr h => ⟨_, (pss_one (ps_ret (pe_and (pe_callB (kk (K := K) (F := rIsi) (P := CallR _ _) call_isi) (by rfl) B.isinstance_ (by decide +kernel) (pa_cons (pv 0) (pa_cons (pe_bltn (v := .ty "tuple") (u := .type "tuple") (by rfl) B.tuple_ (by decide +kernel) rfl) pa_nil))) (pe_and (pe_chain op_le op_le pe_int (pe_callB (lenK (K := K)) (by rfl) B.len_ (by decide +kernel) (pa_cons (pv 0) pa_nil)) pe_int) (pe_one (pe_callB (kk (K := K) (F := rAll) (P := CallR _ _) (cr_all rfl)) (by rfl) B.all_ (by decide +kernel) (pa_cons (pe_lc (own := [("_law_one", 1)]) (g := gName 1) (tt := tYes) rfl sc__law_are_deeds.nd (kk (K := K) (F := fun K => iTup K _) (P := PI _ _ _) (pi_tup (pv 0))) (blkOk_by (own := [("_law_one", 1)]) (N := ["_law_thing", "_law_one"]) (sc := defScope s__law_are_deeds) (by decide +kernel)) (fun _ _ _ _ _ => (pg_name (i := 1) sc__law_are_deeds.nd rfl (Or.inl rfl))) (fun _ _ _ _ _ => pts_nil) (fun _ _ _ _ _ => (pe_cD D__law_is_deed (hr.less (by decide)) rfl (pa_cons (pv 1) pa_nil)))) pa_nil))))))), ?_⟩)
  · obtain ⟨v, d, p, rfl, _⟩ := h; rfl
  · obtain ⟨v, d, p, rfl, hd, q⟩ := h
    have ty := hd.ty
    have k1 := kit_tu (K := K) d
    cases ed : isTu d with
    | false =>
      rw [ed] at k1
      rw [okDs_no ed] at q
      try walk_at "go"
      first | exact q _ (Same.refl _) | exact ifF rfl (q _ (Same.refl _))
    | true =>
      rw [ed] at k1
      obtain ⟨ds, rfl⟩ := isTu_inv ed
      obtain ⟨a, tr, rfl, rfl, ha, htr⟩ := hd.tup_inv
      have eb : okDs (.tuple (tr.map fun t => t.2)) = (decide (1 ≤ tr.length) && (decide (tr.length ≤ 40) && (tr.map fun t => t.2).all isDd)) := by
        show (decide (1 ≤ (tr.map fun t => t.2).length) && (decide ((tr.map fun t => t.2).length ≤ 40) && _)) = _
        rw [len_map2]
      rw [eb] at q
      try walk_at "go"
      by_cases c1' : 1 ≤ tr.length
      · have e1 : decide ((1 : Int) ≤ ((tr.map fun t => t.1).length : Nat)) = true := decide_eq_true (by rw [len_map1]; omega)
        rw [decide_eq_true c1', Bool.true_and] at q
        refine ifT e1 ?_
        try walk_at "go"
        by_cases c2' : tr.length ≤ 40
        · have e2 : decide ((((tr.map fun t => t.1).length : Nat) : Int) ≤ 40) = true := decide_eq_true (by rw [len_map1]; omega)
          rw [decide_eq_true c2', Bool.true_and] at q
          refine ifT e2 ?_
          try walk_at "go"
          intro D hD
          refine lc_tup (K := K) (a := a) (xs := tr.map fun t => t.1) (fun i H' => Kept (Same H H' ∧ H' D = some (.lst (((tr.take i).map fun t => isDd t.2).map V.bl)))) ⟨same_new hD _, upd_same⟩ (fun i H' _ h => SqT.of (h.ex.1 _ _ ha)) ?_ ?_
          · rintro i y H2 hi ⟨S2, hD2⟩
            rw [List.getElem?_map] at hi
            obtain ⟨t, ht, rfl⟩ := Option.map_eq_some_iff.mp hi
            have th2 := (htr t (List.mem_of_getElem? ht)).same S2
            have ln : (((tr.take i).map fun t => isDd t.2).map V.bl).length ≤ 100 := by rw [List.length_map, List.length_map, List.length_take]; omega
            try walk_at "go"
            intro H3 S3
            have hD3 := S3 _ _ hD2
            try walk_at "go"
            exact ⟨⟨but_same hD (S2.trans S3) But.upd, by rw [upd_same, take_snocB isDd ht]⟩⟩
          · rintro H2 ⟨S2, hD2⟩
            try walk_at "go"
            rw [take_all]
            exact q _ S2
        · have e2 : decide ((((tr.map fun t => t.1).length : Nat) : Int) ≤ 40) = false := decide_eq_false (by rw [len_map1]; omega)
          rw [decide_eq_false c2', Bool.false_and] at q
          refine ifF e2 ?_
          try walk_at "go"
          exact q _ (Same.refl _)
      · have e1 : decide ((1 : Int) ≤ ((tr.map fun t => t.1).length : Nat)) = false := decide_eq_false (by rw [len_map1]; omega)
        rw [decide_eq_false c1', Bool.false_and] at q
        refine ifF e1 ?_
        try walk_at "go"
        exact q _ (Same.refl _)
/-! SPLIT -/
structure X6 where
  bd : V × PyData
  ak : V × PyData
  ds : V × PyData
  tr : V × PyData
  va : V × PyData
  mn : V × PyData
/-- what is handed in, at a list -/
structure X6.at_ (K : PySem.W.Frag) (p : Addr) (H : Hp) (L : Addr) (x : X6) : Prop where
  o : H L = some (.lst [x.bd.1, x.ak.1, x.ds.1, x.tr.1, x.va.1, x.mn.1])
  bd : Th K p H x.bd.1 x.bd.2
  ak : Th K p H x.ak.1 x.ak.2
  ds : Th K p H x.ds.1 x.ds.2
  tr : Th K p H x.tr.1 x.tr.2
  va : Th K p H x.va.1 x.va.2
  mn : Th K p H x.mn.1 x.mn.2
  n1 : nsz x.ak.2 ≤ 1000000
  n2 : nsz x.tr.2 ≤ 1000000
  n3 : x.tr.2.depth ≤ 50
omit B in
theorem X6.at_.same {K : PySem.W.Frag} {p : Addr} {H H' : Hp} {L : Addr} {x : X6} (h : x.at_ K p H L) (e : Same H H') : x.at_ K p H' L := ⟨e _ _ h.o, h.bd.same e, h.ak.same e, h.ds.same e, h.tr.same e, h.va.same e, h.mn.same e, h.n1, h.n2, h.n3⟩
def dueC (c : Nat) (x : X6) : Nat :=
  if c < 3 then (if isBd x.bd.2 = false then 3 else if isAs (tlen x.bd.2) x.ak.2 = false then 4 else 0) else
  if 4 < c then (if isR x.mn.2 1 40 = false then 1 else 0) else
  if c = 4 ∧ isWh x.va.2 = false then 1 else
  if okDs x.ds.2 = false then 2 else if isT x.tr.2 (tlen x.ds.2) = false then 5 else 0
def wd : Nat → Str
  | 0 => "told"
  | 1 => "number"
  | 2 => "deed"
  | 3 => "board"
  | 4 => "ask"
  | _ => "tree"
def cl : Nat → Str
  | 1 => "NoNumber"
  | 2 => "NoDeed"
  | 3 => "NoBoard"
  | 4 => "NoAsk"
  | _ => "NoTree"
omit B in
theorem th_at {K : PySem.W.Frag} {p : Addr} {H H' : Hp} {v : V} {d : PyData} (h : Th K p H v d) (e : Same H H') : Th K p H' v d := h.same e
local macro_rules | `(tactic| walk_at "own") => `(tactic| first | exact L2.ClsV.own _ | (apply Toy.th_at; (with_reducible assumption); walk_at "sm"))
def spDue24 (K : PySem.W.Frag) : Sp := fun vs H Q _ => ∃ (L p : Addr) (x : X6) (c : Nat), vs = [.int c, .ref L] ∧ X6.at_ K p H L x ∧ c < 8 ∧ ∀ H', Same H H' → Q (.str (wd (dueC c x))) H'
theorem k__law_due (D : Df K mg "_law_due" s__law_due ["_law_choice", "_law_handed"]) (D__law_is_board : Dn P w K mg base 2 "_law_is_board" ["_law_thing"] (spLBdT K)) (D__law_are_asks : Dn P w K mg base 5 "_law_are_asks" ["_law_board_here", "_law_thing"] (spLAsT K)) (D__law_is_whole : Dn P w K mg base 1 "_law_is_whole" ["_law_thing"] (spWhT2 K)) (D__law_are_deeds : Dn P w K mg base 4 "_law_are_deeds" ["_law_thing"] (spLDs K)) (D__law_is_tree : Dn P w K mg base 63 "_law_is_tree" ["_law_thing", "_law_many"] (spLIsT K)) : Dn P w K mg base 64 "_law_due" ["_law_choice", "_law_handed"] (spDue24 K) := by
  refine D.ok fun f fd F => okG0 F sc__law_due (fun vs H Q E h => ?_) (fun cdv A outer s H vs Q E hr h => ⟨_, (pss_cons (ps_asg (pv 1) (kk (K := K) (F := fun K => gLstU K 6 _) (P := PG _ _) (pg_lstU rfl (pgs_cons (pg_name (i := 2) sc__law_due.nd rfl (Or.inl rfl)) (pgs_cons (pg_name (i := 3) sc__law_due.nd rfl (Or.inl rfl)) (pgs_cons (pg_name (i := 4) sc__law_due.nd rfl (Or.inl rfl)) (pgs_cons (pg_name (i := 5) sc__law_due.nd rfl (Or.inl rfl)) (pgs_cons (pg_name (i := 6) sc__law_due.nd rfl (Or.inl rfl)) (pgs_cons (pg_name (i := 7) sc__law_due.nd rfl (Or.inl rfl)) pgs_nil)))))))))
    (pss_cons (ps_if (pt_cmpR op_lt (pv 0) pe_int (nomark _))
      (pss_cons (ps_if (pt_not (pt_val (pe_cD D__law_is_board (hr.less (by decide)) rfl (pa_cons (pv 2) pa_nil))))
        (pss_one (ps_ret pe_str))
        pss_nil)
      (pss_one (ps_ret (pe_ix (kk (K := K) (F := rIxL) (P := IxR _) ix_list) (pe_lst (pa_cons pe_str (pa_cons pe_str pa_nil))) (pe_callTy call_int1 (by rfl) B.int_ (by decide +kernel) (pa_cons (pe_cD D__law_are_asks (hr.less (by decide)) rfl (pa_cons (pv 2) (pa_cons (pv 3) pa_nil))) pa_nil)) (fun _ _ => rfl)))))
      pss_nil)
    (pss_cons (ps_if (pt_cmpR op_gt (pv 0) pe_int (nomark _))
      (pss_one (ps_ret (pe_ix (kk (K := K) (F := rIxL) (P := IxR _) ix_list) (pe_lst (pa_cons pe_str (pa_cons pe_str pa_nil))) (pe_callTy call_int1 (by rfl) B.int_ (by decide +kernel) (pa_cons (pe_and (pe_cD D__law_is_whole (hr.less (by decide)) rfl (pa_cons (pv 7) pa_nil)) (pe_one (pe_chain op_le op_le pe_int (pv 7) pe_int))) pa_nil)) (fun _ _ => rfl))))
      pss_nil)
    (pss_cons (ps_if (PW.pt (pw_and (pt_cmpR op_eq (pv 0) pe_int (nomark _)) (pw_and1 (pt_not (pt_val (pe_cD D__law_is_whole (hr.less (by decide)) rfl (pa_cons (pv 6) pa_nil)))))))
      (pss_one (ps_ret pe_str))
      pss_nil)
    (pss_cons (ps_if (pt_not (pt_val (pe_cD D__law_are_deeds (hr.less (by decide)) rfl (pa_cons (pv 4) pa_nil))))
      (pss_one (ps_ret pe_str))
      pss_nil)
    (pss_one (ps_ret (pe_ix (kk (K := K) (F := rIxL) (P := IxR _) ix_list) (pe_lst (pa_cons pe_str (pa_cons pe_str pa_nil))) (pe_callTy call_int1 (by rfl) B.int_ (by decide +kernel) (pa_cons (pe_cD D__law_is_tree (hr.less (by decide)) rfl (pa_cons (pv 5) (pa_cons (pe_callB (lenK (K := K)) (by rfl) B.len_ (by decide +kernel) (pa_cons (pv 4) pa_nil)) pa_nil))) pa_nil)) (fun _ _ => rfl))))))))), ?_⟩)
  · obtain ⟨L, p, x, c, rfl, _⟩ := h; rfl
  · obtain ⟨L, p, x, c, rfl, hx, hc, q⟩ := h
    have oL := hx.o
    have t1 := hx.bd
    have t2 := hx.ak
    have t3 := hx.ds
    have t4 := hx.tr
    have t5 := hx.va
    have t6 := hx.mn
    have n1 := hx.n1
    have n2 := hx.n2
    have n3 := hx.n3
    have n1' : nsz x.ak.2 ≤ 2000000 := by omega
    clear hx
    obtain ⟨⟨v1, d1⟩, ⟨v2, d2⟩, ⟨v3, d3⟩, ⟨v4, d4⟩, ⟨v5, d5⟩, ⟨v6, d6⟩⟩ := x
    unfold dueC at q
    dsimp only at *
    try walk_at "go"
    refine ite2 (fun e => ?_) (fun e => ?_)
    · have c3 : c < 3 := by have := of_decide_eq_true e; omega
      rw [if_pos c3] at q
      try walk_at "go"
      intro H1 S1
      cases eb : isBd d1 with
      | false =>
        rw [if_pos eb] at q
        try walk_at "go"
        exact q _ S1
      | true =>
        rw [if_neg (by rw [eb]; decide)] at q
        try walk_at "go"
        obtain ⟨ds, rfl, l1, l2, l3⟩ := isBd_tu eb
        obtain ⟨b, tr, rfl, rfl, hb, _⟩ := t1.tup_inv
        have hb1 := S1 _ _ hb
        have lb : (tr.map fun t => t.1).length ≤ 16 := by rw [List.length_map] at l2 ⊢; exact l2
        have el : (tr.map fun t => t.1).length = tlen (.tuple (tr.map fun t => t.2)) := by show _ = (tr.map fun t => t.2).length; rw [List.length_map, List.length_map]
        rw [← el] at q
        try walk_at "go"
        intro M hM
        generalize eH2 : upd _ M _ = H2
        have SH2 := newS eH2 hM
        have oM := newO eH2
        have hb2 := SH2 _ _ hb1
        try walk_at "go"
        intro H3 S3
        have oM3 := S3 _ _ oM
        try walk_at "go"
        refine .inr ⟨_, rfl, ?_⟩
        have S03 := S1.trans (SH2.trans S3)
        cases ea : isAs (tr.map fun t => t.1).length d2 with
        | false =>
          rw [if_pos ea] at q
          have ix : atI [V.str "ask", V.str "told"] (if (false : Bool) = true then (1 : Int) else 0) = some (.str "ask") := rfl
          try walk_at "go"
          exact q _ S03
        | true =>
          rw [if_neg (by rw [ea]; decide)] at q
          have ix : atI [V.str "ask", V.str "told"] (if (true : Bool) = true then (1 : Int) else 0) = some (.str "told") := rfl
          try walk_at "go"
          exact q _ S03
    have c3 : ¬ c < 3 := by have := of_decide_eq_false (Bool.eq_false_iff.mpr e); omega
    rw [if_neg c3] at q
    have ixn_ : atI [V.str "number", V.str "told"] (if (false : Bool) = true then (1 : Int) else 0) = some (.str "number") := rfl
    have ixt_ : atI [V.str "number", V.str "told"] (if (true : Bool) = true then (1 : Int) else 0) = some (.str "told") := rfl
    try walk_at "go"
    refine ite2 (fun e2 => ?_) (fun e2 => ?_)
    · have c4 : 4 < c := by have := of_decide_eq_true e2; omega
      rw [if_pos c4] at q
      try walk_at "go"
      intro M hM
      generalize eH1 : upd _ M _ = H1
      have SH1 := newS eH1 hM
      have oM := newO eH1
      try walk_at "go"
      cases e3 : isWh d6 with
      | false =>
        rw [if_pos (isR_no e3)] at q
        refine ifF rfl ?_
        refine .inr ⟨_, rfl, ?_⟩
        try walk_at "go"
        exact q _ SH1
      | true =>
        obtain ⟨i, rfl⟩ := isWh_inv e3
        cases t6.int_inv
        refine ifT rfl ?_
        have eR : isR (.int i) 1 40 = (decide (1 ≤ i) && decide (i ≤ 40)) := rfl
        rw [eR] at q
        try walk_at "go"
        refine ite2 (fun e4 => ?_) (fun e4 => ?_)
        · rw [e4, Bool.true_and] at q
          try walk_at "go"
          refine .inr ⟨_, rfl, ?_⟩
          cases e5 : decide (i ≤ 40) with
          | false =>
            rw [if_pos e5] at q
            try walk_at "go"
            exact q _ SH1
          | true =>
            rw [if_neg (by rw [e5]; decide)] at q
            try walk_at "go"
            exact q _ SH1
        · rw [Bool.eq_false_iff.mpr e4, Bool.false_and, if_pos rfl] at q
          try walk_at "go"
          refine .inr ⟨_, rfl, ?_⟩
          have e6 : decide (1 ≤ i) = false := Bool.eq_false_iff.mpr e4
          try rw [e6]
          try walk_at "go"
          exact q _ SH1
    have c4 : ¬ 4 < c := by have := of_decide_eq_false (Bool.eq_false_iff.mpr e2); omega
    rw [if_neg c4] at q
    have rest : ∀ H1, Same H H1 → (∀ H', Same H H' → Q (.str (wd (if okDs d3 = false then 2 else if isT d4 (tlen d3) = false then 5 else 0))) H') → True := fun _ _ _ => trivial
    try walk_at "go"
    by_cases e4 : c = 4
    · refine ifT (by rw [e4] <;> rfl) ?_
      try walk_at "go"
      cases e5 : isWh d5 with
      | false =>
        rw [if_pos ⟨e4, e5⟩] at q
        refine ifT rfl ?_
        try walk_at "go"
        exact q _ (Same.refl _)
      | true =>
        rw [if_neg fun z => by rw [z.2] at e5; cases e5] at q
        refine ifF rfl ?_
        try walk_at "go"
        intro H1 S1
        cases eb : okDs d3 with
        | false =>
          rw [if_pos eb] at q
          try walk_at "go"
          exact q _ S1
        | true =>
          rw [if_neg (by rw [eb]; decide)] at q
          try walk_at "go"
          obtain ⟨ds, rfl, l1, l2, l3⟩ := okDs_tu eb
          obtain ⟨b, tr, rfl, rfl, hb, _⟩ := t3.tup_inv
          have hb1 := S1 _ _ hb
          have lb : (tr.map fun t => t.1).length ≤ 40 := by rw [List.length_map] at l2 ⊢; exact l2
          have el : (tr.map fun t => t.1).length = tlen (.tuple (tr.map fun t => t.2)) := by show _ = (tr.map fun t => t.2).length; rw [List.length_map, List.length_map]
          rw [← el] at q
          try walk_at "go"
          intro M hM
          generalize eH2 : upd _ M _ = H2
          have SH2 := newS eH2 hM
          have oM := newO eH2
          have hb2 := SH2 _ _ hb1
          try walk_at "go"
          intro H3 S3
          have oM3 := S3 _ _ oM
          try walk_at "go"
          refine .inr ⟨_, rfl, ?_⟩
          have S03 := S1.trans (SH2.trans S3)
          cases ea : isT d4 (tr.map fun t => t.1).length with
          | false =>
            rw [if_pos ea] at q
            have ix : atI [V.str "tree", V.str "told"] (if (false : Bool) = true then (1 : Int) else 0) = some (.str "tree") := rfl
            try walk_at "go"
            exact q _ S03
          | true =>
            rw [if_neg (by rw [ea]; decide)] at q
            have ix : atI [V.str "tree", V.str "told"] (if (true : Bool) = true then (1 : Int) else 0) = some (.str "told") := rfl
            try walk_at "go"
            exact q _ S03
    · rw [if_neg fun z => e4 z.1] at q
      refine ifF (decide_eq_false fun z => e4 (by have := V.int.inj z; omega)) ?_
      try walk_at "go"
      intro H1 S1
      cases eb : okDs d3 with
      | false =>
        rw [if_pos eb] at q
        try walk_at "go"
        exact q _ S1
      | true =>
        rw [if_neg (by rw [eb]; decide)] at q
        try walk_at "go"
        obtain ⟨ds, rfl, l1, l2, l3⟩ := okDs_tu eb
        obtain ⟨b, tr, rfl, rfl, hb, _⟩ := t3.tup_inv
        have hb1 := S1 _ _ hb
        have lb : (tr.map fun t => t.1).length ≤ 40 := by rw [List.length_map] at l2 ⊢; exact l2
        have el : (tr.map fun t => t.1).length = tlen (.tuple (tr.map fun t => t.2)) := by show _ = (tr.map fun t => t.2).length; rw [List.length_map, List.length_map]
        rw [← el] at q
        try walk_at "go"
        intro M hM
        generalize eH2 : upd _ M _ = H2
        have SH2 := newS eH2 hM
        have oM := newO eH2
        have hb2 := SH2 _ _ hb1
        try walk_at "go"
        intro H3 S3
        have oM3 := S3 _ _ oM
        try walk_at "go"
        refine .inr ⟨_, rfl, ?_⟩
        have S03 := S1.trans (SH2.trans S3)
        cases ea : isT d4 (tr.map fun t => t.1).length with
        | false =>
          rw [if_pos ea] at q
          have ix : atI [V.str "tree", V.str "told"] (if (false : Bool) = true then (1 : Int) else 0) = some (.str "tree") := rfl
          try walk_at "go"
          exact q _ S03
        | true =>
          rw [if_neg (by rw [ea]; decide)] at q
          have ix : atI [V.str "tree", V.str "told"] (if (true : Bool) = true then (1 : Int) else 0) = some (.str "told") := rfl
          try walk_at "go"
          exact q _ S03
/-! SPLIT -/
local macro_rules | `(tactic| walk_at "own") => `(tactic| first | exact L2.ClsV.own _ | (apply Toy.th_at; (with_reducible assumption); walk_at "sm"))
omit B in
theorem due_cl {c : Nat} {x : X6} : dueC c x ≤ 5 := by
  unfold dueC
  repeat (first | omega | split)
/-- what the body of the try promises -/
def spWord24 (K : PySem.W.Frag) : Sp := fun vs H Q _ => ∃ (L p : Addr) (x : X6) (c : Nat), vs = [.int c, .ref L] ∧ X6.at_ K p H L x ∧ c < 8 ∧ ∀ H', Same H H' → Q (.str (wd (dueC c x))) H'
theorem k__law_word (D : Df K mg "_law_word" s__law_word ["_law_choice", "_law_handed"]) (D_played : Dx P w K mg base 7 "played" ["board", "asks"] (spPl24 K (cAt mg "NoBoard") (cAt mg "NoAsk"))) (D_all_of : Dx P w K mg base 7 "all_of" ["board", "asks"] (spPl24 K (cAt mg "NoBoard") (cAt mg "NoAsk"))) (D_ahead_of : Dx P w K mg base 7 "ahead_of" ["board", "asks"] (spPl24 K (cAt mg "NoBoard") (cAt mg "NoAsk"))) (D_folded : Dx P w K mg base 45 "folded" ["deeds", "tree"] (spFold24 K (cAt mg "NoDeed") (cAt mg "NoTree"))) (D_shared_out : Dx P w K mg base 46 "shared_out" ["deeds", "tree", "value"] (spShare24 K (cAt mg "NoNumber") (cAt mg "NoDeed") (cAt mg "NoTree"))) (D_halved : Dx P w K mg base 42 "halved" ["many"] (spHal24 K (cAt mg "NoNumber"))) (D_chained : Dx P w K mg base 5 "chained" ["many"] (spHal24 K (cAt mg "NoNumber"))) (D_is_tree : Dx P w K mg base 5 "is_tree" ["thing", "many"] (spIsT24 K (cAt mg "NoNumber"))) : Dn P w K mg base 47 "_law_word" ["_law_choice", "_law_handed"] (spWord24 K) := by
  refine D.ok fun f fd F => okG0 F sc__law_word (fun vs H Q E h => ?_) (fun cdv A outer s H vs Q E hr h => ⟨_, (pss_cons (ps_asg (pv 1) (kk (K := K) (F := fun K => gLstU K 6 _) (P := PG _ _) (pg_lstU rfl (pgs_cons (pg_name (i := 2) sc__law_word.nd rfl (Or.inl rfl)) (pgs_cons (pg_name (i := 3) sc__law_word.nd rfl (Or.inl rfl)) (pgs_cons (pg_name (i := 4) sc__law_word.nd rfl (Or.inl rfl)) (pgs_cons (pg_name (i := 5) sc__law_word.nd rfl (Or.inl rfl)) (pgs_cons (pg_name (i := 6) sc__law_word.nd rfl (Or.inl rfl)) (pgs_cons (pg_name (i := 7) sc__law_word.nd rfl (Or.inl rfl)) pgs_nil)))))))))
    (pss_cons (ps_set (i := 8) sc__law_word.nd rfl (Or.inl rfl) pe_str)
    (pss_cons (ps_try_as (i := 9) rfl rfl sc__law_word.nd rfl rfl ⟨rfl, by decide, .inl B.AskError_.mg_⟩ takes0 (fun W pn xe tk po => (pss_one (ps_if (pt_cmpR op_lt (pv 0) pe_int (nomark _))
       (pss_one (ps_expr (pe_c3 D_played D_all_of D_ahead_of (hr.less (by decide)) (hr.less (by decide)) (hr.less (by decide)) tk (pe_ix (kk (K := K) (F := rIxL) (P := IxR _) ix_list) (pe_lst (pa_cons (pe_glob (v := .ref (cAt mg "played")) (u := .ref (cAt mg "played")) (by rfl) D_played.mg rfl) (pa_cons (pe_glob (v := .ref (cAt mg "all_of")) (u := .ref (cAt mg "all_of")) (by rfl) D_all_of.mg rfl) (pa_cons (pe_glob (v := .ref (cAt mg "ahead_of")) (u := .ref (cAt mg "ahead_of")) (by rfl) D_ahead_of.mg rfl) pa_nil)))) (pv 0) (fun _ _ => rfl)) (pa_cons (pv 2) (pa_cons (pv 3) pa_nil)))))
       (pss_one (ps_if (pt_cmpR op_eq (pv 0) pe_int (nomark _))
        (pss_one (ps_expr (pe_cW D_folded (hr.less (by decide)) tk rfl (pa_cons (pv 4) (pa_cons (pv 5) pa_nil)))))
        (pss_one (ps_if (pt_cmpR op_eq (pv 0) pe_int (nomark _))
         (pss_one (ps_expr (pe_cW D_shared_out (hr.less (by decide)) tk rfl (pa_cons (pv 4) (pa_cons (pv 5) (pa_cons (pv 6) pa_nil))))))
         (pss_one (ps_if (pt_cmpR op_lt (pv 0) pe_int (nomark _))
          (pss_one (ps_expr (pe_c3 D_halved D_chained D_chained (hr.less (by decide)) (hr.less (by decide)) (hr.less (by decide)) tk (pe_ix (kk (K := K) (F := rIxL) (P := IxR _) ix_list) (pe_lst (pa_cons (pe_glob (v := .ref (cAt mg "halved")) (u := .ref (cAt mg "halved")) (by rfl) D_halved.mg rfl) (pa_cons (pe_glob (v := .ref (cAt mg "chained")) (u := .ref (cAt mg "chained")) (by rfl) D_chained.mg rfl) pa_nil))) (pe_op op_sub (pv 0) pe_int) (fun _ _ => rfl)) (pa_cons (pv 7) pa_nil))))
          (pss_one (ps_expr (pe_cW D_is_tree (hr.less (by decide)) tk rfl (pa_cons (pv 5) (pa_cons (pv 7) pa_nil))))))))))))))
      (fun a oe cls d pn hz hf => (pss_cons (ps_set (i := 10) sc__law_word.nd rfl (Or.inl rfl) (pe_lst (pa_cons (pe_callB (call_isX hz hf) (by rfl) B.isinstance_ (by decide +kernel) (pa_cons (pv 9) (pa_cons (pe_glob (v := .ref (cAt mg "NoNumber")) (u := .ref (cAt mg "NoNumber")) (by rfl) B.NoNumber_.mg_ rfl) pa_nil))) (pa_cons (pe_callB (call_isX hz hf) (by rfl) B.isinstance_ (by decide +kernel) (pa_cons (pv 9) (pa_cons (pe_glob (v := .ref (cAt mg "NoDeed")) (u := .ref (cAt mg "NoDeed")) (by rfl) B.NoDeed_.mg_ rfl) pa_nil))) (pa_cons (pe_callB (call_isX hz hf) (by rfl) B.isinstance_ (by decide +kernel) (pa_cons (pv 9) (pa_cons (pe_glob (v := .ref (cAt mg "NoBoard")) (u := .ref (cAt mg "NoBoard")) (by rfl) B.NoBoard_.mg_ rfl) pa_nil))) (pa_cons (pe_callB (call_isX hz hf) (by rfl) B.isinstance_ (by decide +kernel) (pa_cons (pv 9) (pa_cons (pe_glob (v := .ref (cAt mg "NoAsk")) (u := .ref (cAt mg "NoAsk")) (by rfl) B.NoAsk_.mg_ rfl) pa_nil))) pa_nil))))))
      (pss_cons (ps_expr (kk (K := K) (F := fun K => tBM K "list" _ _ _) (P := PE _ _) (pe_bm PySem.F.plainAttrs_list PySem.F.slot_list_append PySem.F.type_list_append mt_append (pv 10) (pa_cons (pe_callB (call_isX hz hf) (by rfl) B.isinstance_ (by decide +kernel) (pa_cons (pv 9) (pa_cons (pe_glob (v := .ref (cAt mg "NoTree")) (u := .ref (cAt mg "NoTree")) (by rfl) B.NoTree_.mg_ rfl) pa_nil))) pa_nil))))
      (pss_cons (ps_set (i := 11) sc__law_word.nd rfl (Or.inl rfl) (pe_callB (call_isXT hz hf) (by rfl) B.isinstance_ (by decide +kernel) (pa_cons (pv 9) (pa_cons (pe_tup (pa_cons (pe_glob (v := .ref (cAt mg "NoCalls")) (u := .ref (cAt mg "NoCalls")) (by rfl) B.NoCalls_.mg_ rfl) (pa_cons (pe_glob (v := .ref (cAt mg "NoHand")) (u := .ref (cAt mg "NoHand")) (by rfl) B.NoHand_.mg_ rfl) (pa_cons (pe_glob (v := .ref (cAt mg "NoNet")) (u := .ref (cAt mg "NoNet")) (by rfl) B.NoNet_.mg_ rfl) (pa_cons (pe_glob (v := .ref (cAt mg "NoOrder")) (u := .ref (cAt mg "NoOrder")) (by rfl) B.NoOrder_.mg_ rfl) (pa_cons (pe_glob (v := .ref (cAt mg "NoRow")) (u := .ref (cAt mg "NoRow")) (by rfl) B.NoRow_.mg_ rfl) (pa_cons (pe_glob (v := .ref (cAt mg "NoSettings")) (u := .ref (cAt mg "NoSettings")) (by rfl) B.NoSettings_.mg_ rfl) (pa_cons (pe_glob (v := .ref (cAt mg "NoSide")) (u := .ref (cAt mg "NoSide")) (by rfl) B.NoSide_.mg_ rfl) (pa_cons (pe_glob (v := .ref (cAt mg "NoTable")) (u := .ref (cAt mg "NoTable")) (by rfl) B.NoTable_.mg_ rfl) (pa_cons (pe_glob (v := .ref (cAt mg "NoText")) (u := .ref (cAt mg "NoText")) (by rfl) B.NoText_.mg_ rfl) (pa_cons (pe_glob (v := .ref (cAt mg "NoToken")) (u := .ref (cAt mg "NoToken")) (by rfl) B.NoToken_.mg_ rfl) pa_nil))))))))))) pa_nil))))
      (pss_cons (ps_set (i := 8) sc__law_word.nd rfl (Or.inl rfl) pe_str)
      (pss_one (ps_if (PW.pt (pw_and (pt_cmpR op_eq (kk (K := K) (F := fun K => tBM K "list" _ _ _) (P := PE _ _) (pe_bm PySem.F.plainAttrs_list PySem.F.slot_list_count PySem.F.type_list_count mt_lcountF (pv 10) (pa_cons pe_bl pa_nil))) pe_int (nomark _)) (pw_and (pt_not (pt_val (pv 11))) (pw_and (pt_not (pt_val (pe_callB (call_isX hz hf) (by rfl) B.isinstance_ (by decide +kernel) (pa_cons (pv 9) (pa_cons (pe_glob (v := .ref (cAt mg "TooMany")) (u := .ref (cAt mg "TooMany")) (by rfl) B.TooMany_.mg_ rfl) pa_nil))))) (pw_and1 (pt_val (pe_callB (call_isX hz hf) (by rfl) B.isinstance_ (by decide +kernel) (pa_cons (pv 9) (pa_cons (pe_bltn (v := .ty "ValueError") (u := .type "ValueError") (by rfl) B.ValueError_ (by decide +kernel) rfl) pa_nil)))))))))
       (pss_one (ps_set (i := 8) sc__law_word.nd rfl (Or.inl rfl) (pe_ix (kk (K := K) (F := rIxL) (P := IxR _) ix_list) (pe_lst (pa_cons pe_str (pa_cons pe_str (pa_cons pe_str (pa_cons pe_str (pa_cons pe_str pa_nil)))))) (kk (K := K) (F := fun K => tBM K "list" _ _ _) (P := PE _ _) (pe_bm PySem.F.plainAttrs_list PySem.F.slot_list_index PySem.F.type_list_index mt_index (pv 10) (pa_cons pe_bl pa_nil))) (fun _ _ => rfl))))
       pss_nil))))))))
    (pss_one (ps_ret (pv 8)))))), ?_⟩)
  · obtain ⟨L, p, x, c, rfl, _⟩ := h; rfl
  · obtain ⟨L, p, x, c, rfl, hx, hc, q⟩ := h
    have oL := hx.o
    have t1 := hx.bd
    have t2 := hx.ak
    have t3 := hx.ds
    have t4 := hx.tr
    have t5 := hx.va
    have t6 := hx.mn
    have n1 := hx.n1
    have n2 := hx.n2
    have n1' : nsz x.ak.2 ≤ 2000000 := by omega
    have n2' : nsz x.tr.2 ≤ 10000000 := by omega
    clear hx
    obtain ⟨⟨v1, d1⟩, ⟨v2, d2⟩, ⟨v3, d3⟩, ⟨v4, d4⟩, ⟨v5, d5⟩, ⟨v6, d6⟩⟩ := x
    dsimp only at *
    try walk_at "go"
    generalize hW : wAs _ _ _ _ _ _ = W
    have err : ∀ (n : Nat), 1 ≤ n → dueC c ⟨(v1, d1), (v2, d2), (v3, d3), (v4, d4), (v5, d5), (v6, d6)⟩ = n → ∀ H1, Same H H1 → WE W [some (.int (c : Nat)), some (.ref L), some v1, some v2, some v3, some v4, some v5, some v6, some (.str "told"), none, none, none] (.ref (cAt mg (cl n))) none H1 := by
      intro n n1 en H1 S1
      have n5 := due_cl (c := c) (x := ⟨(v1, d1), (v2, d2), (v3, d3), (v4, d4), (v5, d5), (v6, d6)⟩)
      rw [en] at n5 q
      subst hW
      rcases (show n = 1 ∨ n = 2 ∨ n = 3 ∨ n = 4 ∨ n = 5 by omega) with rfl | rfl | rfl | rfl | rfl
      · have S1 := S1
        have ex := exm_of B.AskError_ B.NoNumber_AskError_
        refine ⟨true, ex, fun _ a ha => ?_, fun z => by cases z⟩
        have k_NoNumber := kitO B.NoNumber_ B.NoNumber_NoNumber_ B.NoNumber_NoNumber_
        have k_NoDeed := kitO B.NoDeed_ B.NoNumber_NoNumber_ B.NoNumber_NoDeed_
        have k_NoBoard := kitO B.NoBoard_ B.NoNumber_NoNumber_ B.NoNumber_NoBoard_
        have k_NoAsk := kitO B.NoAsk_ B.NoNumber_NoNumber_ B.NoNumber_NoAsk_
        have k_NoTree := kitO B.NoTree_ B.NoNumber_NoNumber_ B.NoNumber_NoTree_
        have k_NoCalls := kitO B.NoCalls_ B.NoNumber_NoNumber_ B.NoNumber_NoCalls_
        have k_NoHand := kitO B.NoHand_ B.NoNumber_NoNumber_ B.NoNumber_NoHand_
        have k_NoNet := kitO B.NoNet_ B.NoNumber_NoNumber_ B.NoNumber_NoNet_
        have k_NoOrder := kitO B.NoOrder_ B.NoNumber_NoNumber_ B.NoNumber_NoOrder_
        have k_NoRow := kitO B.NoRow_ B.NoNumber_NoNumber_ B.NoNumber_NoRow_
        have k_NoSettings := kitO B.NoSettings_ B.NoNumber_NoNumber_ B.NoNumber_NoSettings_
        have k_NoSide := kitO B.NoSide_ B.NoNumber_NoNumber_ B.NoNumber_NoSide_
        have k_NoTable := kitO B.NoTable_ B.NoNumber_NoNumber_ B.NoNumber_NoTable_
        have k_NoText := kitO B.NoText_ B.NoNumber_NoNumber_ B.NoNumber_NoText_
        have k_NoToken := kitO B.NoToken_ B.NoNumber_NoNumber_ B.NoNumber_NoToken_
        have k_TooMany := kitO B.TooMany_ B.NoNumber_NoNumber_ B.NoNumber_TooMany_
        have no : ∀ y ∈ (["NoCalls", "NoHand", "NoNet", "NoOrder", "NoRow", "NoSettings", "NoSide", "NoTable", "NoText", "NoToken"] : List Str), PySem.W.kitOne K (.ref (cAt mg "NoNumber")) (.ref (cAt mg y)) = some false := fun y hy => by
          simp only [List.mem_cons, List.not_mem_nil, or_false] at hy
          rcases hy with rfl | rfl | rfl | rfl | rfl | rfl | rfl | rfl | rfl | rfl
          · exact k_NoCalls
          · exact k_NoHand
          · exact k_NoNet
          · exact k_NoOrder
          · exact k_NoRow
          · exact k_NoSettings
          · exact k_NoSide
          · exact k_NoTable
          · exact k_NoText
          · exact k_NoToken
        have kv := kitVE B.NoNumber_i
        have kc := B.NoNumber_i.c
        try walk_at "go"
        intro M1 hM1
        generalize eH2 : upd _ M1 _ = H2
        have SH2 := newS eH2 hM1
        have oM1 := newO eH2
        try walk_at "go"
        intro U1 hU1
        generalize eH3 : upd _ U1 _ = H3
        have SH3 := newS eH3 hU1
        have oU1 := newO eH3
        have oM1 : H3 M1 = some (.lst [.bl true, .bl false, .bl false, .bl false, .bl false]) := SH3 _ _ upd_same
        try walk_at "go"
        refine ⟨pairOwn ["NoCalls", "NoHand", "NoNet", "NoOrder", "NoRow", "NoSettings", "NoSide", "NoTable", "NoText", "NoToken"], kitAnyF no, ?_⟩
        try walk_at "go"
        intro W1 hW1
        generalize eH4 : upd _ W1 _ = H4
        have SH4 := newS eH4 hW1
        have oW1 := newO eH4
        have oM1 := SH4 _ _ oM1
        try walk_at "go"
        refine ⟨(rfl : ([V.bl true, .bl false, .bl false, .bl false, .bl false] : List V)[0]? = some (V.bl true)), rfl, fun m z' hm hz => ?_, ?_⟩
        · exact absurd hm (Nat.not_lt_zero _)
        try walk_at "go"
        have ti : atI [V.str "number", V.str "deed", V.str "board", V.str "ask", V.str "tree"] ((0 : Nat) : Int) = some (.str "number") := rfl
        try walk_at "go"
        exact q _ (S1.trans (Same.trans (fun b o h => (upd_ne (by rintro rfl; rw [hM1] at h; cases h)).trans (SH2 b o h)) (SH3.trans SH4)))
      · have S1 := S1
        have ex := exm_of B.AskError_ B.NoDeed_AskError_
        refine ⟨true, ex, fun _ a ha => ?_, fun z => by cases z⟩
        have k_NoNumber := kitO B.NoNumber_ B.NoDeed_NoDeed_ B.NoDeed_NoNumber_
        have k_NoDeed := kitO B.NoDeed_ B.NoDeed_NoDeed_ B.NoDeed_NoDeed_
        have k_NoBoard := kitO B.NoBoard_ B.NoDeed_NoDeed_ B.NoDeed_NoBoard_
        have k_NoAsk := kitO B.NoAsk_ B.NoDeed_NoDeed_ B.NoDeed_NoAsk_
        have k_NoTree := kitO B.NoTree_ B.NoDeed_NoDeed_ B.NoDeed_NoTree_
        have k_NoCalls := kitO B.NoCalls_ B.NoDeed_NoDeed_ B.NoDeed_NoCalls_
        have k_NoHand := kitO B.NoHand_ B.NoDeed_NoDeed_ B.NoDeed_NoHand_
        have k_NoNet := kitO B.NoNet_ B.NoDeed_NoDeed_ B.NoDeed_NoNet_
        have k_NoOrder := kitO B.NoOrder_ B.NoDeed_NoDeed_ B.NoDeed_NoOrder_
        have k_NoRow := kitO B.NoRow_ B.NoDeed_NoDeed_ B.NoDeed_NoRow_
        have k_NoSettings := kitO B.NoSettings_ B.NoDeed_NoDeed_ B.NoDeed_NoSettings_
        have k_NoSide := kitO B.NoSide_ B.NoDeed_NoDeed_ B.NoDeed_NoSide_
        have k_NoTable := kitO B.NoTable_ B.NoDeed_NoDeed_ B.NoDeed_NoTable_
        have k_NoText := kitO B.NoText_ B.NoDeed_NoDeed_ B.NoDeed_NoText_
        have k_NoToken := kitO B.NoToken_ B.NoDeed_NoDeed_ B.NoDeed_NoToken_
        have k_TooMany := kitO B.TooMany_ B.NoDeed_NoDeed_ B.NoDeed_TooMany_
        have no : ∀ y ∈ (["NoCalls", "NoHand", "NoNet", "NoOrder", "NoRow", "NoSettings", "NoSide", "NoTable", "NoText", "NoToken"] : List Str), PySem.W.kitOne K (.ref (cAt mg "NoDeed")) (.ref (cAt mg y)) = some false := fun y hy => by
          simp only [List.mem_cons, List.not_mem_nil, or_false] at hy
          rcases hy with rfl | rfl | rfl | rfl | rfl | rfl | rfl | rfl | rfl | rfl
          · exact k_NoCalls
          · exact k_NoHand
          · exact k_NoNet
          · exact k_NoOrder
          · exact k_NoRow
          · exact k_NoSettings
          · exact k_NoSide
          · exact k_NoTable
          · exact k_NoText
          · exact k_NoToken
        have kv := kitVE B.NoDeed_i
        have kc := B.NoDeed_i.c
        try walk_at "go"
        intro M1 hM1
        generalize eH2 : upd _ M1 _ = H2
        have SH2 := newS eH2 hM1
        have oM1 := newO eH2
        try walk_at "go"
        intro U1 hU1
        generalize eH3 : upd _ U1 _ = H3
        have SH3 := newS eH3 hU1
        have oU1 := newO eH3
        have oM1 : H3 M1 = some (.lst [.bl false, .bl true, .bl false, .bl false, .bl false]) := SH3 _ _ upd_same
        try walk_at "go"
        refine ⟨pairOwn ["NoCalls", "NoHand", "NoNet", "NoOrder", "NoRow", "NoSettings", "NoSide", "NoTable", "NoText", "NoToken"], kitAnyF no, ?_⟩
        try walk_at "go"
        intro W1 hW1
        generalize eH4 : upd _ W1 _ = H4
        have SH4 := newS eH4 hW1
        have oW1 := newO eH4
        have oM1 := SH4 _ _ oM1
        try walk_at "go"
        refine ⟨(rfl : ([V.bl false, .bl true, .bl false, .bl false, .bl false] : List V)[1]? = some (V.bl true)), rfl, fun m z' hm hz => ?_, ?_⟩
        · rcases (show m = 0 by omega) with rfl <;> (cases hz; rfl)
        try walk_at "go"
        have ti : atI [V.str "number", V.str "deed", V.str "board", V.str "ask", V.str "tree"] ((1 : Nat) : Int) = some (.str "deed") := rfl
        try walk_at "go"
        exact q _ (S1.trans (Same.trans (fun b o h => (upd_ne (by rintro rfl; rw [hM1] at h; cases h)).trans (SH2 b o h)) (SH3.trans SH4)))
      · have S1 := S1
        have ex := exm_of B.AskError_ B.NoBoard_AskError_
        refine ⟨true, ex, fun _ a ha => ?_, fun z => by cases z⟩
        have k_NoNumber := kitO B.NoNumber_ B.NoBoard_NoBoard_ B.NoBoard_NoNumber_
        have k_NoDeed := kitO B.NoDeed_ B.NoBoard_NoBoard_ B.NoBoard_NoDeed_
        have k_NoBoard := kitO B.NoBoard_ B.NoBoard_NoBoard_ B.NoBoard_NoBoard_
        have k_NoAsk := kitO B.NoAsk_ B.NoBoard_NoBoard_ B.NoBoard_NoAsk_
        have k_NoTree := kitO B.NoTree_ B.NoBoard_NoBoard_ B.NoBoard_NoTree_
        have k_NoCalls := kitO B.NoCalls_ B.NoBoard_NoBoard_ B.NoBoard_NoCalls_
        have k_NoHand := kitO B.NoHand_ B.NoBoard_NoBoard_ B.NoBoard_NoHand_
        have k_NoNet := kitO B.NoNet_ B.NoBoard_NoBoard_ B.NoBoard_NoNet_
        have k_NoOrder := kitO B.NoOrder_ B.NoBoard_NoBoard_ B.NoBoard_NoOrder_
        have k_NoRow := kitO B.NoRow_ B.NoBoard_NoBoard_ B.NoBoard_NoRow_
        have k_NoSettings := kitO B.NoSettings_ B.NoBoard_NoBoard_ B.NoBoard_NoSettings_
        have k_NoSide := kitO B.NoSide_ B.NoBoard_NoBoard_ B.NoBoard_NoSide_
        have k_NoTable := kitO B.NoTable_ B.NoBoard_NoBoard_ B.NoBoard_NoTable_
        have k_NoText := kitO B.NoText_ B.NoBoard_NoBoard_ B.NoBoard_NoText_
        have k_NoToken := kitO B.NoToken_ B.NoBoard_NoBoard_ B.NoBoard_NoToken_
        have k_TooMany := kitO B.TooMany_ B.NoBoard_NoBoard_ B.NoBoard_TooMany_
        have no : ∀ y ∈ (["NoCalls", "NoHand", "NoNet", "NoOrder", "NoRow", "NoSettings", "NoSide", "NoTable", "NoText", "NoToken"] : List Str), PySem.W.kitOne K (.ref (cAt mg "NoBoard")) (.ref (cAt mg y)) = some false := fun y hy => by
          simp only [List.mem_cons, List.not_mem_nil, or_false] at hy
          rcases hy with rfl | rfl | rfl | rfl | rfl | rfl | rfl | rfl | rfl | rfl
          · exact k_NoCalls
          · exact k_NoHand
          · exact k_NoNet
          · exact k_NoOrder
          · exact k_NoRow
          · exact k_NoSettings
          · exact k_NoSide
          · exact k_NoTable
          · exact k_NoText
          · exact k_NoToken
        have kv := kitVE B.NoBoard_i
        have kc := B.NoBoard_i.c
        try walk_at "go"
        intro M1 hM1
        generalize eH2 : upd _ M1 _ = H2
        have SH2 := newS eH2 hM1
        have oM1 := newO eH2
        try walk_at "go"
        intro U1 hU1
        generalize eH3 : upd _ U1 _ = H3
        have SH3 := newS eH3 hU1
        have oU1 := newO eH3
        have oM1 : H3 M1 = some (.lst [.bl false, .bl false, .bl true, .bl false, .bl false]) := SH3 _ _ upd_same
        try walk_at "go"
        refine ⟨pairOwn ["NoCalls", "NoHand", "NoNet", "NoOrder", "NoRow", "NoSettings", "NoSide", "NoTable", "NoText", "NoToken"], kitAnyF no, ?_⟩
        try walk_at "go"
        intro W1 hW1
        generalize eH4 : upd _ W1 _ = H4
        have SH4 := newS eH4 hW1
        have oW1 := newO eH4
        have oM1 := SH4 _ _ oM1
        try walk_at "go"
        refine ⟨(rfl : ([V.bl false, .bl false, .bl true, .bl false, .bl false] : List V)[2]? = some (V.bl true)), rfl, fun m z' hm hz => ?_, ?_⟩
        · rcases (show m = 0 ∨ m = 1 by omega) with rfl | rfl <;> (cases hz; rfl)
        try walk_at "go"
        have ti : atI [V.str "number", V.str "deed", V.str "board", V.str "ask", V.str "tree"] ((2 : Nat) : Int) = some (.str "board") := rfl
        try walk_at "go"
        exact q _ (S1.trans (Same.trans (fun b o h => (upd_ne (by rintro rfl; rw [hM1] at h; cases h)).trans (SH2 b o h)) (SH3.trans SH4)))
      · have S1 := S1
        have ex := exm_of B.AskError_ B.NoAsk_AskError_
        refine ⟨true, ex, fun _ a ha => ?_, fun z => by cases z⟩
        have k_NoNumber := kitO B.NoNumber_ B.NoAsk_NoAsk_ B.NoAsk_NoNumber_
        have k_NoDeed := kitO B.NoDeed_ B.NoAsk_NoAsk_ B.NoAsk_NoDeed_
        have k_NoBoard := kitO B.NoBoard_ B.NoAsk_NoAsk_ B.NoAsk_NoBoard_
        have k_NoAsk := kitO B.NoAsk_ B.NoAsk_NoAsk_ B.NoAsk_NoAsk_
        have k_NoTree := kitO B.NoTree_ B.NoAsk_NoAsk_ B.NoAsk_NoTree_
        have k_NoCalls := kitO B.NoCalls_ B.NoAsk_NoAsk_ B.NoAsk_NoCalls_
        have k_NoHand := kitO B.NoHand_ B.NoAsk_NoAsk_ B.NoAsk_NoHand_
        have k_NoNet := kitO B.NoNet_ B.NoAsk_NoAsk_ B.NoAsk_NoNet_
        have k_NoOrder := kitO B.NoOrder_ B.NoAsk_NoAsk_ B.NoAsk_NoOrder_
        have k_NoRow := kitO B.NoRow_ B.NoAsk_NoAsk_ B.NoAsk_NoRow_
        have k_NoSettings := kitO B.NoSettings_ B.NoAsk_NoAsk_ B.NoAsk_NoSettings_
        have k_NoSide := kitO B.NoSide_ B.NoAsk_NoAsk_ B.NoAsk_NoSide_
        have k_NoTable := kitO B.NoTable_ B.NoAsk_NoAsk_ B.NoAsk_NoTable_
        have k_NoText := kitO B.NoText_ B.NoAsk_NoAsk_ B.NoAsk_NoText_
        have k_NoToken := kitO B.NoToken_ B.NoAsk_NoAsk_ B.NoAsk_NoToken_
        have k_TooMany := kitO B.TooMany_ B.NoAsk_NoAsk_ B.NoAsk_TooMany_
        have no : ∀ y ∈ (["NoCalls", "NoHand", "NoNet", "NoOrder", "NoRow", "NoSettings", "NoSide", "NoTable", "NoText", "NoToken"] : List Str), PySem.W.kitOne K (.ref (cAt mg "NoAsk")) (.ref (cAt mg y)) = some false := fun y hy => by
          simp only [List.mem_cons, List.not_mem_nil, or_false] at hy
          rcases hy with rfl | rfl | rfl | rfl | rfl | rfl | rfl | rfl | rfl | rfl
          · exact k_NoCalls
          · exact k_NoHand
          · exact k_NoNet
          · exact k_NoOrder
          · exact k_NoRow
          · exact k_NoSettings
          · exact k_NoSide
          · exact k_NoTable
          · exact k_NoText
          · exact k_NoToken
        have kv := kitVE B.NoAsk_i
        have kc := B.NoAsk_i.c
        try walk_at "go"
        intro M1 hM1
        generalize eH2 : upd _ M1 _ = H2
        have SH2 := newS eH2 hM1
        have oM1 := newO eH2
        try walk_at "go"
        intro U1 hU1
        generalize eH3 : upd _ U1 _ = H3
        have SH3 := newS eH3 hU1
        have oU1 := newO eH3
        have oM1 : H3 M1 = some (.lst [.bl false, .bl false, .bl false, .bl true, .bl false]) := SH3 _ _ upd_same
        try walk_at "go"
        refine ⟨pairOwn ["NoCalls", "NoHand", "NoNet", "NoOrder", "NoRow", "NoSettings", "NoSide", "NoTable", "NoText", "NoToken"], kitAnyF no, ?_⟩
        try walk_at "go"
        intro W1 hW1
        generalize eH4 : upd _ W1 _ = H4
        have SH4 := newS eH4 hW1
        have oW1 := newO eH4
        have oM1 := SH4 _ _ oM1
        try walk_at "go"
        refine ⟨(rfl : ([V.bl false, .bl false, .bl false, .bl true, .bl false] : List V)[3]? = some (V.bl true)), rfl, fun m z' hm hz => ?_, ?_⟩
        · rcases (show m = 0 ∨ m = 1 ∨ m = 2 by omega) with rfl | rfl | rfl <;> (cases hz; rfl)
        try walk_at "go"
        have ti : atI [V.str "number", V.str "deed", V.str "board", V.str "ask", V.str "tree"] ((3 : Nat) : Int) = some (.str "ask") := rfl
        try walk_at "go"
        exact q _ (S1.trans (Same.trans (fun b o h => (upd_ne (by rintro rfl; rw [hM1] at h; cases h)).trans (SH2 b o h)) (SH3.trans SH4)))
      · have S1 := S1
        have ex := exm_of B.AskError_ B.NoTree_AskError_
        refine ⟨true, ex, fun _ a ha => ?_, fun z => by cases z⟩
        have k_NoNumber := kitO B.NoNumber_ B.NoTree_NoTree_ B.NoTree_NoNumber_
        have k_NoDeed := kitO B.NoDeed_ B.NoTree_NoTree_ B.NoTree_NoDeed_
        have k_NoBoard := kitO B.NoBoard_ B.NoTree_NoTree_ B.NoTree_NoBoard_
        have k_NoAsk := kitO B.NoAsk_ B.NoTree_NoTree_ B.NoTree_NoAsk_
        have k_NoTree := kitO B.NoTree_ B.NoTree_NoTree_ B.NoTree_NoTree_
        have k_NoCalls := kitO B.NoCalls_ B.NoTree_NoTree_ B.NoTree_NoCalls_
        have k_NoHand := kitO B.NoHand_ B.NoTree_NoTree_ B.NoTree_NoHand_
        have k_NoNet := kitO B.NoNet_ B.NoTree_NoTree_ B.NoTree_NoNet_
        have k_NoOrder := kitO B.NoOrder_ B.NoTree_NoTree_ B.NoTree_NoOrder_
        have k_NoRow := kitO B.NoRow_ B.NoTree_NoTree_ B.NoTree_NoRow_
        have k_NoSettings := kitO B.NoSettings_ B.NoTree_NoTree_ B.NoTree_NoSettings_
        have k_NoSide := kitO B.NoSide_ B.NoTree_NoTree_ B.NoTree_NoSide_
        have k_NoTable := kitO B.NoTable_ B.NoTree_NoTree_ B.NoTree_NoTable_
        have k_NoText := kitO B.NoText_ B.NoTree_NoTree_ B.NoTree_NoText_
        have k_NoToken := kitO B.NoToken_ B.NoTree_NoTree_ B.NoTree_NoToken_
        have k_TooMany := kitO B.TooMany_ B.NoTree_NoTree_ B.NoTree_TooMany_
        have no : ∀ y ∈ (["NoCalls", "NoHand", "NoNet", "NoOrder", "NoRow", "NoSettings", "NoSide", "NoTable", "NoText", "NoToken"] : List Str), PySem.W.kitOne K (.ref (cAt mg "NoTree")) (.ref (cAt mg y)) = some false := fun y hy => by
          simp only [List.mem_cons, List.not_mem_nil, or_false] at hy
          rcases hy with rfl | rfl | rfl | rfl | rfl | rfl | rfl | rfl | rfl | rfl
          · exact k_NoCalls
          · exact k_NoHand
          · exact k_NoNet
          · exact k_NoOrder
          · exact k_NoRow
          · exact k_NoSettings
          · exact k_NoSide
          · exact k_NoTable
          · exact k_NoText
          · exact k_NoToken
        have kv := kitVE B.NoTree_i
        have kc := B.NoTree_i.c
        try walk_at "go"
        intro M1 hM1
        generalize eH2 : upd _ M1 _ = H2
        have SH2 := newS eH2 hM1
        have oM1 := newO eH2
        try walk_at "go"
        intro U1 hU1
        generalize eH3 : upd _ U1 _ = H3
        have SH3 := newS eH3 hU1
        have oU1 := newO eH3
        have oM1 : H3 M1 = some (.lst [.bl false, .bl false, .bl false, .bl false, .bl true]) := SH3 _ _ upd_same
        try walk_at "go"
        refine ⟨pairOwn ["NoCalls", "NoHand", "NoNet", "NoOrder", "NoRow", "NoSettings", "NoSide", "NoTable", "NoText", "NoToken"], kitAnyF no, ?_⟩
        try walk_at "go"
        intro W1 hW1
        generalize eH4 : upd _ W1 _ = H4
        have SH4 := newS eH4 hW1
        have oW1 := newO eH4
        have oM1 := SH4 _ _ oM1
        try walk_at "go"
        refine ⟨(rfl : ([V.bl false, .bl false, .bl false, .bl false, .bl true] : List V)[4]? = some (V.bl true)), rfl, fun m z' hm hz => ?_, ?_⟩
        · rcases (show m = 0 ∨ m = 1 ∨ m = 2 ∨ m = 3 by omega) with rfl | rfl | rfl | rfl <;> (cases hz; rfl)
        try walk_at "go"
        have ti : atI [V.str "number", V.str "deed", V.str "board", V.str "ask", V.str "tree"] ((4 : Nat) : Int) = some (.str "tree") := rfl
        try walk_at "go"
        exact q _ (S1.trans (Same.trans (fun b o h => (upd_ne (by rintro rfl; rw [hM1] at h; cases h)).trans (SH2 b o h)) (SH3.trans SH4)))
    have told : dueC c ⟨(v1, d1), (v2, d2), (v3, d3), (v4, d4), (v5, d5), (v6, d6)⟩ = 0 → ∀ H1, Same H H1 → Q (.str "told") H1 := fun e H1 S1 => by have := q H1 S1; rw [e] at this; exact this
    clear q
    refine ite2 (fun e => ?_) (fun e => ?_)
    · have c3 : c < 3 := by have := of_decide_eq_true e; omega
      have r3 : dueC c ⟨(v1, d1), (v2, d2), (v3, d3), (v4, d4), (v5, d5), (v6, d6)⟩ = if isBd d1 = false then 3 else if isAs (tlen d1) d2 = false then 4 else 0 := if_pos c3
      try walk_at "go"
      intro M hM
      generalize eH1 : upd _ M _ = H1
      have SH1 := newS eH1 hM
      have oM := newO eH1
      rcases (show c = 0 ∨ c = 1 ∨ c = 2 by omega) with h | h | h
      · obtain rfl : c = 0 := by omega
        have ix : atI [V.ref (cAt mg "played"), V.ref (cAt mg "all_of"), V.ref (cAt mg "ahead_of")] ((0 : Nat) : Int) = some (V.ref (cAt mg "played")) := rfl
        try walk_at "go"
        refine .inl ⟨rfl, ?_⟩
        try walk_at "go"
        refine ⟨fun e1 e2 x H2 S2 => ?_, fun e H2 S2 => err 3 (by decide) (by rw [r3, e] <;> rfl) H2 (SH1.trans S2), fun e1 e2 H2 S2 => err 4 (by decide) (by rw [r3, e1, e2] <;> rfl) H2 (SH1.trans S2)⟩
        subst hW
        try walk_at "go"
        exact told (by rw [r3, e1, e2] <;> rfl) H2 (SH1.trans S2)
      · obtain rfl : c = 1 := by omega
        have ix : atI [V.ref (cAt mg "played"), V.ref (cAt mg "all_of"), V.ref (cAt mg "ahead_of")] ((1 : Nat) : Int) = some (V.ref (cAt mg "all_of")) := rfl
        try walk_at "go"
        refine .inr (.inl ⟨rfl, ?_⟩)
        try walk_at "go"
        refine ⟨fun e1 e2 x H2 S2 => ?_, fun e H2 S2 => err 3 (by decide) (by rw [r3, e] <;> rfl) H2 (SH1.trans S2), fun e1 e2 H2 S2 => err 4 (by decide) (by rw [r3, e1, e2] <;> rfl) H2 (SH1.trans S2)⟩
        subst hW
        try walk_at "go"
        exact told (by rw [r3, e1, e2] <;> rfl) H2 (SH1.trans S2)
      · obtain rfl : c = 2 := by omega
        have ix : atI [V.ref (cAt mg "played"), V.ref (cAt mg "all_of"), V.ref (cAt mg "ahead_of")] ((2 : Nat) : Int) = some (V.ref (cAt mg "ahead_of")) := rfl
        try walk_at "go"
        refine .inr (.inr ⟨rfl, ?_⟩)
        try walk_at "go"
        refine ⟨fun e1 e2 x H2 S2 => ?_, fun e H2 S2 => err 3 (by decide) (by rw [r3, e] <;> rfl) H2 (SH1.trans S2), fun e1 e2 H2 S2 => err 4 (by decide) (by rw [r3, e1, e2] <;> rfl) H2 (SH1.trans S2)⟩
        subst hW
        try walk_at "go"
        exact told (by rw [r3, e1, e2] <;> rfl) H2 (SH1.trans S2)
    · have c3 : ¬ c < 3 := by have := of_decide_eq_false (Bool.eq_false_iff.mpr e); omega
      try walk_at "go"
      refine ite2 (fun e4 => ?_) (fun e4 => ?_)
      · obtain rfl : c = 3 := by have z := of_decide_eq_true e4; have := V.int.inj z; omega
        have r3 : dueC 3 ⟨(v1, d1), (v2, d2), (v3, d3), (v4, d4), (v5, d5), (v6, d6)⟩ = if okDs d3 = false then 2 else if isT d4 (tlen d3) = false then 5 else 0 := rfl
        try walk_at "go"
        refine ⟨fun a1 a2 x H2 S2 => ?_, fun a1 H2 S2 => err 2 (by decide) (by rw [r3, a1] <;> rfl) H2 S2, fun a1 a2 H2 S2 => err 5 (by decide) (by rw [r3, a1, a2] <;> rfl) H2 S2⟩
        subst hW
        try walk_at "go"
        exact told (by rw [r3, a1, a2] <;> rfl) H2 S2
      try walk_at "go"
      refine ite2 (fun e5 => ?_) (fun e5 => ?_)
      · obtain rfl : c = 4 := by have z := of_decide_eq_true e5; have := V.int.inj z; omega
        have r3 : dueC 4 ⟨(v1, d1), (v2, d2), (v3, d3), (v4, d4), (v5, d5), (v6, d6)⟩ = if 4 = 4 ∧ isWh d5 = false then 1 else if okDs d3 = false then 2 else if isT d4 (tlen d3) = false then 5 else 0 := rfl
        try walk_at "go"
        refine ⟨fun a0 a1 a2 x H2 S2 => ?_, fun a0 H2 S2 => err 1 (by decide) (by rw [r3, a0] <;> rfl) H2 S2, fun a0 a1 H2 S2 => err 2 (by decide) (by rw [r3, a0, a1] <;> rfl) H2 S2, fun a0 a1 a2 H2 S2 => err 5 (by decide) (by rw [r3, a0, a1, a2] <;> rfl) H2 S2⟩
        subst hW
        try walk_at "go"
        exact told (by rw [r3, a0, a1, a2] <;> rfl) H2 S2
      have c5 : 4 < c := by
        have a1 : c ≠ 3 := fun z => e4 (by rw [z] <;> rfl)
        have a2 : c ≠ 4 := fun z => e5 (by rw [z] <;> rfl)
        omega
      have r3 : dueC c ⟨(v1, d1), (v2, d2), (v3, d3), (v4, d4), (v5, d5), (v6, d6)⟩ = if isR d6 1 40 = false then 1 else 0 := (if_neg c3).trans (if_pos c5)
      try walk_at "go"
      refine ite2 (fun e6 => ?_) (fun e6 => ?_)
      · have c7 : c < 7 := by have := of_decide_eq_true e6; omega
        try walk_at "go"
        intro M hM
        generalize eH1 : upd _ M _ = H1
        have SH1 := newS eH1 hM
        have oM := newO eH1
        rcases (show c = 5 ∨ c = 6 by omega) with h | h
        · obtain rfl : c = 5 := h
          have ix : atI [V.ref (cAt mg "halved"), V.ref (cAt mg "chained")] ((5 : Nat) - 5 : Int) = some (V.ref (cAt mg "halved")) := rfl
          try walk_at "go"
          refine .inl ⟨rfl, ?_⟩
          try walk_at "go"
          refine ⟨fun a1 x H2 S2 => ?_, fun a1 H2 S2 => err 1 (by decide) (by rw [r3, a1] <;> rfl) H2 (SH1.trans S2)⟩
          subst hW
          try walk_at "go"
          exact told (by rw [r3, a1] <;> rfl) H2 (SH1.trans S2)
        · obtain rfl : c = 6 := h
          have ix : atI [V.ref (cAt mg "halved"), V.ref (cAt mg "chained")] ((6 : Nat) - 5 : Int) = some (V.ref (cAt mg "chained")) := rfl
          try walk_at "go"
          refine .inr (.inl ⟨rfl, ?_⟩)
          try walk_at "go"
          refine ⟨fun a1 x H2 S2 => ?_, fun a1 H2 S2 => err 1 (by decide) (by rw [r3, a1] <;> rfl) H2 (SH1.trans S2)⟩
          subst hW
          try walk_at "go"
          exact told (by rw [r3, a1] <;> rfl) H2 (SH1.trans S2)
      · try walk_at "go"
        refine ⟨fun m em m1 m2 H2 S2 => ?_, fun a1 H2 S2 => err 1 (by decide) (by rw [r3, a1] <;> rfl) H2 S2⟩
        subst hW
        subst em
        try walk_at "go"
        exact told (by rw [r3, isR_mk (show (1 : Int) ≤ (m : Nat) by omega) (show ((m : Nat) : Int) ≤ 40 by omega)] <;> rfl) H2 S2
/-! SPLIT -/
def spRight24 (K : PySem.W.Frag) : Sp := fun vs H Q _ => ∃ (p : Addr), vs = [.ref p] ∧ PotAt H p ∧ ∀ H', But p H H' → Q (.bl true) H'
theorem k__law_right (D : Df K mg "_law_right" s__law_right ["_law_pot_here"]) (D__law_draw : Dn P w K mg base 1 "_law_draw" ["_law_pot_here", "_law_many"] spTake) (D__law_board : Dn P w K mg base 3 "_law_board" ["_law_pot_here"] spBoard) (D__law_asks : Dn P w K mg base 4 "_law_asks" ["_law_pot_here", "_law_board_here", "_law_most"] spAsks) (D__law_deed : Dn P w K mg base 3 "_law_deed" ["_law_pot_here"] spDeed) (D__law_tree : Dn P w K mg base 42 "_law_tree" ["_law_pot_here", "_law_first", "_law_many"] (spLT24 40)) (D__law_number : Dn P w K mg base 2 "_law_number" ["_law_pot_here"] spNumber) (D__law_bent : Dn P w K mg base 45 "_law_bent" ["_law_pot_here", "_law_thing", "_law_deep"] ((spBent K) 41)) (D__law_word : Dn P w K mg base 47 "_law_word" ["_law_choice", "_law_handed"] (spWord24 K)) (D__law_due : Dn P w K mg base 64 "_law_due" ["_law_choice", "_law_handed"] (spDue24 K)) : Dn P w K mg base 66 "_law_right" ["_law_pot_here"] (spRight24 K) := by
  refine D.ok fun f fd F => okG0 F sc__law_right (fun vs H Q E h => ?_) (fun cdv A outer s H vs Q E hr h => ⟨_, (pss_cons (ps_setLc (i := 2) (own := [("_law_k", 1)]) (g := gName 1) (tt := tYes) rfl sc__law_right.nd rfl rfl (sw_true rfl rfl rfl (by decide +kernel)) (pi_range1 (by rfl) B.range_ (pa_cons pe_int pa_nil)) (blkOk_by (own := [("_law_k", 1)]) (N := ["_law_pot_here", "_law_k", "_law_wrong", "_law_board_here", "_law_asks_here", "_law_deeds", "_law_some", "_law_handed", "_law_thing", "_law_deep", "_law_kept", "_law_choice"]) (sc := defScope s__law_right) (by decide +kernel)) (fun _ _ _ _ _ => (pg_name (i := 1) sc__law_right.nd rfl (Or.inl rfl))) (fun _ _ _ _ _ => pts_nil) (fun _ _ _ _ _ => (pe_cD D__law_draw (hr.less (by decide)) rfl (pa_cons (pv 0) (pa_cons pe_int pa_nil)))))
    (pss_cons (ps_set (i := 3) sc__law_right.nd rfl (Or.inl rfl) (pe_cD D__law_board (hr.less (by decide)) rfl (pa_cons (pv 0) pa_nil)))
    (pss_cons (ps_set (i := 4) sc__law_right.nd rfl (Or.inl rfl) (pe_cD D__law_asks (hr.less (by decide)) rfl (pa_cons (pv 0) (pa_cons (pv 3) (pa_cons pe_int pa_nil)))))
    (pss_cons (ps_set (i := 5) sc__law_right.nd rfl (Or.inl rfl) (pe_callTy (tupOfK (K := K)) (by rfl) B.tuple_ (by decide +kernel) (pa_cons (pe_lc (own := [("_law_k", 1)]) (g := gName 1) (tt := tYes) rfl sc__law_right.nd (pi_range1 (by rfl) B.range_ (pa_cons (pe_op op_add pe_int (pe_cD D__law_draw (hr.less (by decide)) rfl (pa_cons (pv 0) (pa_cons (pe_ix (kk (K := K) (F := rIxL) (P := IxR _) ix_list) (pe_lstS (pa_cons pe_int (pa_cons pe_int (pa_cons pe_int pa_nil)))) (pe_cD D__law_draw (hr.less (by decide)) rfl (pa_cons (pv 0) (pa_cons pe_int pa_nil))) (fun _ _ => rfl)) pa_nil)))) pa_nil)) (blkOk_by (own := [("_law_k", 1)]) (N := ["_law_pot_here", "_law_k", "_law_wrong", "_law_board_here", "_law_asks_here", "_law_deeds", "_law_some", "_law_handed", "_law_thing", "_law_deep", "_law_kept", "_law_choice"]) (sc := defScope s__law_right) (by decide +kernel)) (fun _ _ _ _ _ => (pg_name (i := 1) sc__law_right.nd rfl (Or.inl rfl))) (fun _ _ _ _ _ => pts_nil) (fun _ _ _ _ _ => (pe_cD D__law_deed (hr.less (by decide)) rfl (pa_cons (pv 0) pa_nil)))) pa_nil)))
    (pss_cons (ps_set (i := 6) sc__law_right.nd rfl (Or.inl rfl) (pe_lstS (pa_cons (pe_tup (pa_cons (pv 3) (pa_cons pe_int pa_nil))) (pa_cons (pe_tup (pa_cons (pv 4) (pa_cons pe_int pa_nil))) (pa_cons (pe_tup (pa_cons (pv 5) (pa_cons pe_int pa_nil))) (pa_cons (pe_tup (pa_cons (pe_cD D__law_tree (hr.less (by decide)) rfl (pa_cons (pv 0) (pa_cons pe_int (pa_cons (pe_callB (lenK (K := K)) (by rfl) B.len_ (by decide +kernel) (pa_cons (pv 5) pa_nil)) pa_nil)))) (pa_cons pe_int pa_nil))) (pa_cons (pe_tup (pa_cons (pe_cD D__law_number (hr.less (by decide)) rfl (pa_cons (pv 0) pa_nil)) (pa_cons pe_int pa_nil))) pa_nil)))))))
    (pss_cons (ps_expr (kk (K := K) (F := fun K => tBM K "list" _ _ _) (P := PE _ _) (pe_bm PySem.F.plainAttrs_list PySem.F.slot_list_append PySem.F.type_list_append mt_append (pv 6) (pa_cons (pe_tup (pa_cons (pe_op op_add pe_int (pe_cD D__law_draw (hr.less (by decide)) rfl (pa_cons (pv 0) (pa_cons pe_int pa_nil)))) (pa_cons pe_int pa_nil))) pa_nil))))
    (pss_cons (ps_set (i := 7) sc__law_right.nd rfl (Or.inl rfl) (pe_lstS pa_nil))
    (pss_cons (ps_for PassesOwn.never rfl (kk (K := K) (F := fun K => iEnum K _) (P := PI _ _ _) (pi_enum (by rfl) B.enumerate_ (pa_cons (pv 6) pa_nil))) (kk (K := K) (F := fun K => gTup K 2 _) (P := PG _ _) (pg_tup rfl (pgs_cons (pg_name (i := 1) sc__law_right.nd rfl (Or.inl rfl)) (pgs_cons (kk (K := K) (F := fun K => gTup K 2 _) (P := PG _ _) (pg_tup rfl (pgs_cons (pg_name (i := 8) sc__law_right.nd rfl (Or.inl rfl)) (pgs_cons (pg_name (i := 9) sc__law_right.nd rfl (Or.inl rfl)) pgs_nil)))) pgs_nil))))
      (pss_cons (ps_if (pt_cmpR op_eq (pe_ix (kk (K := K) (F := rIxL) (P := IxR _) ix_list) (pv 2) (pv 1) (fun _ _ => rfl)) pe_int (nomark _))
        (pss_one (ps_set (i := 8) sc__law_right.nd rfl (Or.inl rfl) (pe_cD D__law_bent (hr.less (by decide)) rfl (pa_cons (pv 0) (pa_cons (pv 8) (pa_cons (pv 9) pa_nil))))))
        pss_nil)
      (pss_one (ps_expr (kk (K := K) (F := fun K => tBM K "list" _ _ _) (P := PE _ _) (pe_bm PySem.F.plainAttrs_list PySem.F.slot_list_append PySem.F.type_list_append mt_append (pv 7) (pa_cons (pv 8) pa_nil)))))))
    (pss_cons (ps_set (i := 10) sc__law_right.nd rfl (Or.inl rfl) (pe_callB (reprO (K := K) hr) (by rfl) B.repr_ (by decide +kernel) (pa_cons (pv 7) pa_nil)))
    (pss_cons (ps_for PassesOwn.never rfl (kk (K := K) (F := fun K => iList K _) (P := PI _ _ _) (pi_list (pe_op op_cat (pe_listRg rfl (by rfl) B.list_ (prg_1 rfl B.range_ pe_int)) (pe_lstS (pa_cons (pe_cD D__law_draw (hr.less (by decide)) rfl (pa_cons (pv 0) (pa_cons pe_int pa_nil))) pa_nil))))) (pg_name (i := 11) sc__law_right.nd rfl (Or.inl rfl))
      (pss_one (ps_if (pt_cmpR op_ne (pe_cD D__law_word (hr.less (by decide)) rfl (pa_cons (pv 11) (pa_cons (pv 7) pa_nil))) (pe_cD D__law_due (hr.less (by decide)) rfl (pa_cons (pv 11) (pa_cons (pv 7) pa_nil))) (nomark _))
       (pss_one (ps_ret pe_bl))
       pss_nil)))
    (pss_one (ps_ret (pe_cmpR op_eq (pe_callB (reprO (K := K) hr) (by rfl) B.repr_ (by decide +kernel) (pa_cons (pv 7) pa_nil)) (pv 10) (nomark _)))))))))))))), ?_⟩)
  · obtain ⟨p, rfl, _⟩ := h; rfl
  · obtain ⟨p, rfl, hp, q⟩ := h
    try walk_at "go"
    intro W0 hW0
    have nW := pot_ne hp hW0
    refine lc_range (lo := 0) (n := 6) (fun i H1 => ∃ ws : List Nat, But p H H1 ∧ PotAt H1 p ∧ H1 W0 = some (.lst (ws.map fun x => V.int (x : Nat))) ∧ ws.length = i) ⟨[], same_but (same_new hW0 _), hp.same (same_new hW0 _), upd_same, rfl⟩ ?_ ?_
    · rintro i H1 hi ⟨ws, b1, p1, o1, l1⟩
      try walk_at "go"
      intro e H2 e0 e1 b2 p2
      have o2 := b2 _ _ nW o1
      refine ⟨_, o2, small1000 (by rw [List.length_map]; omega), ws ++ [e.toNat], ?_, ?_, by rw [upd_same, List.map_append]; show _ = some (HO.lst (_ ++ [V.int ((e.toNat : Nat) : Int)])); rw [show ((e.toNat : Nat) : Int) = e by omega], by rw [List.length_append, l1] <;> rfl⟩
      · exact but_upd hW0 (b1.trans b2)
      · exact p2.upd nW.symm
    rintro H1 ⟨ws, b1, p1, o1, l1⟩
    try walk_at "go"
    intro bA bs H2 b2 p2 nb hb hw
    have hb3 := hb.1
    try walk_at "go"
    intro kA as H3 b3 p3 nk hk
    have hb3 : BoardAt H3 bA bs := ⟨b3 _ _ (ne_of hb.1 p2.choose_spec.choose_spec.1 (by intro z; cases z)) hb.1, hb.2⟩
    try walk_at "go"
    intro C3 hC3
    generalize eH4 : upd _ C3 _ = H4
    have SH4 := newS eH4 hC3
    have oC3 := newO eH4
    have p4 := p3.same SH4
    try walk_at "go"
    intro nsm
    try walk_at "go"
    intro e5 H5 e50 e51 b5 p5
    have oC5 := b5 _ _ (pot_ne p3 hC3) oC3
    obtain ⟨z, hz, hz1⟩ := at3 (x0 := 3) (x1 := 9) (x2 := 38) e5.toNat (by omega)
    have ix : atI [V.int 3, V.int 9, V.int 38] e5 = some (.int z) := at_of (j := e5.toNat) (by omega) hz
    try walk_at "go"
    intro e6 H6 e60 e61 b6 p6
    obtain ⟨m, hm⟩ : ∃ m : Nat, (1 : Int) + e6 = m := ⟨(1 + e6).toNat, by omega⟩
    have m1 : 1 ≤ m := by omega
    have m38 : m ≤ 38 := by omega
    try walk_at "go"
    rw [hm]
    try walk_at "go"
    intro D hD
    have nD := pot_ne p6 hD
    refine lc_range (lo := 0) (n := m) (fun i H7 => ∃ ds : List (Addr × Dd), But p H6 H7 ∧ PotAt H7 p ∧ H7 D = some (.lst (ds.map fun x => V.ref x.1)) ∧ ds.length = i ∧ ∀ x ∈ ds, H7 x.1 = some (.tup x.2.vs) ∧ x.2.In (10 ^ 31) ∧ x.2.Ok) ⟨[], same_but (same_new hD _), p6.same (same_new hD _), upd_same, rfl, fun x hx => nomatch hx⟩ ?_ ?_
    · rintro i H7 hi ⟨ds, b7, p7, o7, l7, h7⟩
      try walk_at "go"
      intro a d H8 b8 p8 na ha hi1 hi2
      have o8 := b8 _ _ nD o7
      have b68 := b7.trans b8
      refine ⟨_, o8, small1000 (by rw [List.length_map]; omega), ds ++ [(a, d)], but_upd hD b68, p8.upd nD.symm, by rw [upd_same, List.map_append] <;> rfl, by rw [List.length_append, l7] <;> rfl, fun x hx => ?_⟩
      have tr : H8 x.1 = some (.tup x.2.vs) ∧ x.2.In (10 ^ 31) ∧ x.2.Ok := by
        rcases List.mem_append.mp hx with h3 | h3
        · obtain ⟨a1, a2⟩ := h7 x h3
          exact ⟨b8 _ _ (ne_of a1 p7.choose_spec.choose_spec.1 (by intro z; cases z)) a1, a2⟩
        · have := List.mem_singleton.mp h3
          subst this
          exact ⟨ha, hi1, hi2⟩
      exact ⟨by rw [upd_ne (ne_of tr.1 o8 (by intro z; cases z))]; exact tr.1, tr.2⟩
    rintro H7 ⟨ds, b7, p7, o7, l7, h7⟩
    try walk_at "go"
    intro N3 hN3
    generalize eH8 : upd _ N3 _ = H8
    have SH8 := newS eH8 hN3
    have oN3 := newO eH8
    have p8 := p7.same SH8
    try walk_at "go"
    intro T1 hT1
    generalize eH9 : upd _ T1 _ = H9
    have SH9 := newS eH9 hT1
    have oT1 := newO eH9
    try walk_at "go"
    intro T2 hT2
    generalize eH10 : upd _ T2 _ = H10
    have SH10 := newS eH10 hT2
    have oT2 := newO eH10
    try walk_at "go"
    intro T3 hT3
    generalize eH11 : upd _ T3 _ = H11
    have SH11 := newS eH11 hT3
    have oT3 := newO eH11
    have p11 := p8.same (SH9.trans (SH10.trans SH11))
    have oN11 := SH11 _ _ (SH10 _ _ (SH9 _ _ oN3))
    have lm : (ds.map fun x => V.ref x.1).length = m := by rw [List.length_map, l7]
    try walk_at "go"
    rw [lm]
    try walk_at "go"
    intro v4 t4 H12 b12 p12 ht4 hr4 hc4
    try walk_at "go"
    intro T4 hT4
    generalize eH13 : upd _ T4 _ = H13
    have SH13 := newS eH13 hT4
    have oT4 := newO eH13
    have p13 := p12.same SH13
    try walk_at "go"
    intro n5 H14 n50 n51 b14 p14
    try walk_at "go"
    intro T5 hT5
    generalize eH15 : upd _ T5 _ = H15
    have SH15 := newS eH15 hT5
    have oT5 := newO eH15
    try walk_at "go"
    intro SL hSL
    generalize eH16 : upd _ SL _ = H16
    have SH16 := newS eH16 hSL
    have oSL := newO eH16
    have p16 := p14.same (SH15.trans SH16)
    intro ns2
    try walk_at "go"
    intro e7 H17 e70 e71 b17 p17
    try walk_at "go"
    intro T6 hT6
    generalize eH18 : upd _ T6 _ = H18
    have SH18 := newS eH18 hT6
    have oT6 := newO eH18
    have oS18 := SH18 _ _ (b17 _ _ (pot_ne (p14.same SH15) hSL) oSL)
    obtain ⟨r, hr⟩ : ∃ r : Nat, (1 : Int) + e7 = r := ⟨(1 + e7).toNat, by omega⟩
    have oT6 : H18 T6 = some (.tup [.int (r : Nat), .int 0]) := by rw [oT6]; show some (HO.tup [V.int (1 + e7), _]) = _; rw [hr]
    try walk_at "go"
    intro HL hHL
    generalize eH20 : upd _ HL _ = H20
    have SH20 := newS eH20 hHL
    have oHL := newO eH20
    intro nsH
    -- what stands in front of the loop
    have tk18 : TK H17 H18 := TK.same SH18
    have tk17 : TK H16 H18 := (TK.but b17 p16).trans tk18
    have tk15 : TK H14 H18 := (TK.same (SH15.trans SH16)).trans tk17
    have tk13 : TK H13 H18 := (TK.but b14 p13).trans tk15
    have tk12 : TK H12 H18 := (TK.same SH13).trans tk13
    have tk11 : TK H11 H18 := (TK.but b12 p11).trans tk12
    have tk10 : TK H10 H18 := (TK.same SH11).trans tk11
    have tk9 : TK H9 H18 := (TK.same SH10).trans tk10
    have tk8 : TK H8 H18 := (TK.same SH9).trans tk9
    have tk7 : TK H7 H18 := (TK.same SH8).trans tk8
    have tk6 : TK H6 H18 := (TK.but b7 p6).trans tk7
    have tk3 : TK H3 H18 := (TK.same SH4).trans ((TK.but b5 p4).trans ((TK.but b6 p5).trans tk6))
    have tkF : TK H18 H20 := (TK.upd oS18).trans (TK.same SH20)
    have pN : p ≠ SL := (pot_ne (p14.same SH15) hSL).symm
    have p20 : PotAt H20 p := ((p17.same SH18).upd pN).same SH20
    obtain ⟨ys, hys⟩ : ∃ ys : List It, ys = [⟨T1, .ref bA, intsD bs, 2⟩, ⟨T2, .ref kA, akD as, 4⟩, ⟨T3, .ref N3, .tuple (ds.map fun x => pd x.2), 3⟩, ⟨T4, v4, t4.d, 9⟩, ⟨T5, .int n5, .int n5, 0⟩, ⟨T6, .int (r : Nat), .int (r : Nat), 0⟩] := ⟨_, rfl⟩
    have ly : ys.length = 6 := by rw [hys] <;> rfl
    have hy : ∀ y ∈ ys, H20 y.T = some (.tup [y.v, .int (y.k : Nat)]) ∧ Gd K p H20 y.v y.d ∧ y.k ≤ 40 := by
      rw [hys]
      intro y h
      simp only [List.mem_cons, List.not_mem_nil, or_false] at h
      rcases h with rfl | rfl | rfl | rfl | rfl | rfl
      · refine ⟨tkF _ _ (tk9 _ _ oT1), Gd.tk ?_ (tk3.trans tkF), show (2 : Nat) ≤ 40 by decide⟩
        exact ⟨ints_th hb3.1, lf_ints, (ints_wg (b := 10 ^ 80) (m := 16) (fun x hx => by have := hw x hx; omega) hb.2.2).mono (by decide) (by decide) (by decide)⟩
      · refine ⟨tkF _ _ (tk10 _ _ oT2), Gd.tk ?_ (tk3.trans tkF), show (4 : Nat) ≤ 40 by decide⟩
        exact ⟨hk.th, lf_ak, (asks_wg hk hb.2.2).mono (by decide) (by decide) (by decide)⟩
      · refine ⟨tkF _ _ (tk11 _ _ oT3), Gd.tk ?_ (tk8.trans tkF), show (3 : Nat) ≤ 40 by decide⟩
        have := Th.tup (K := K) (p := p) (H := H8) (a := N3) (tr := ds.map fun x => (V.ref x.1, pd x.2)) (by rw [List.map_map]; exact oN3) fun t ht => by
          obtain ⟨x, hx, rfl⟩ := List.mem_map.mp ht
          exact dd_th (SH8 _ _ (h7 x hx).1)
        rw [List.map_map] at this
        refine ⟨this, lfs_of fun d hd => ?_, (Wg.tup (Wgs.all (n := 1) (c := 5779) (b := 10 ^ 31) (m := 38) (fun d hd => ?_) (by rw [List.length_map]; omega))).mono (by decide) (by decide) (by decide)⟩
        · obtain ⟨x, hx, rfl⟩ := List.mem_map.mp hd
          exact lf_pd
        · obtain ⟨x, hx, rfl⟩ := List.mem_map.mp hd
          exact pd_wg (h7 x hx).2.1
      · refine ⟨tkF _ _ (TK.same (SH15.trans SH16) _ _ (TK.but b14 p13 _ _ oT4) |> tk17 _ _), Gd.tk ⟨ht4.th, Tr.lfd _, ?_⟩ (tk12.trans tkF), show (9 : Nat) ≤ 40 by decide⟩
        have := (Tr.wg (t := t4) (b := 10 ^ 80) (Nat.le_trans (Nat.le_trans hr4.big (show 0 + t4.cnt ≤ 40 by omega)) (by decide))).1
        have hh := t4.h_cnt
        exact this.mono (by omega) (by omega) (Nat.le_refl _)
      · refine ⟨tkF _ _ (tk17 _ _ (SH16 _ _ oT5)), ⟨.int _, rfl, (int_wg (b := 10 ^ 80) ?_).mono (by decide) (by decide) (by decide)⟩, show (0 : Nat) ≤ 40 by decide⟩
        omega
      · refine ⟨tkF _ _ oT6, ⟨.int _, rfl, (int_wg (b := 10 ^ 80) ?_).mono (by decide) (by decide) (by decide)⟩, show (0 : Nat) ≤ 40 by decide⟩
        omega
    have oW15 : H15 W0 = some (.lst (ws.map fun x => V.int (x : Nat))) := SH15 _ _ (b14 _ _ nW (SH13 _ _ (b12 _ _ nW (SH11 _ _ (SH10 _ _ (SH9 _ _ (SH8 _ _ (b7 _ _ nW (b6 _ _ nW (b5 _ _ nW (SH4 _ _ (b3 _ _ nW (b2 _ _ nW o1)))))))))))))
    have nWS : W0 ≠ SL := ne_of_none oW15 hSL
    have oW20 : H20 W0 = some (.lst (ws.map fun x => V.int (x : Nat))) := SH20 _ _ ((upd_ne nWS).trans (SH18 _ _ (b17 _ _ nW (SH16 _ _ oW15))))
    have oS20 : H20 SL = some (.lst (ys.map fun y => V.ref y.T)) := by rw [hys]; exact SH20 _ _ upd_same
    have B19 : But p H (upd H18 SL (.lst ([V.ref T1, V.ref T2, V.ref T3, V.ref T4, V.ref T5] ++ [V.ref T6]))) := by
      have a1 : But p H H15 := b1.trans (b2.trans (b3.trans ((same_but SH4).trans (b5.trans (b6.trans (b7.trans ((same_but (SH8.trans (SH9.trans (SH10.trans SH11)))).trans (b12.trans ((same_but SH13).trans (b14.trans (same_but SH15)))))))))))
      have hS0 : H SL = none := by
        cases e : H SL with
        | none => rfl
        | some o =>
          by_cases c : SL = p
          · exact absurd c pN.symm
          · rw [a1 _ _ c e] at hSL; cases hSL
      exact but_upd hS0 (a1.trans ((same_but SH16).trans (b17.trans (same_but SH18))))
    have B20 : But p H H20 := B19.trans (same_but SH20)
    have nHp : HL ≠ p := fun z => by
      obtain ⟨_, _, h1, _⟩ := (p17.same SH18).upd (o := HO.lst ([V.ref T1, V.ref T2, V.ref T3, V.ref T4, V.ref T5] ++ [V.ref T6])) pN
      rw [← z, hHL] at h1
      cases h1
    have hH0 : H HL = none := by
      cases e : H HL with
      | none => rfl
      | some o => rw [B19 _ _ nHp e] at hHL; cases hHL
    obtain ⟨S, hS⟩ : ∃ S : Addr → Prop, S = fun a => a = p ∨ a = HL := ⟨_, rfl⟩
    have Sp_ : S p := by rw [hS]; exact .inl rfl
    have SH_ : S HL := by rw [hS]; exact .inr rfl
    have Sof : ∀ H' ls, PotAt H' p → H' HL = some (.lst ls) → SetOf S p H' := fun H' ls e1 e2 => ⟨Sp_, fun a ha => by
      rw [hS] at ha
      rcases ha with rfl | rfl
      · obtain ⟨_, _, h1, _⟩ := e1
        rw [h1]; exact fun z => by cases z
      · rw [e2]; exact fun z => by cases z⟩
    have nSH : SL ≠ HL := ne_of_none upd_same hHL
    have nWH : W0 ≠ HL := ne_of_none ((upd_ne nWS).trans (SH18 _ _ (b17 _ _ nW (SH16 _ _ oW15)))) hHL
    generalize akD as = da at hys
    clear hys
    try walk_at "go"
    refine for_enum' (K := K) (a := SL) (xs := ys.map fun y => V.ref y.T) (fun i σ H' => Kept (∃ (v1 v8 v9 : Option V) (hs : List (V × PyData)), σ = [some (.ref p), v1, some (.ref W0), some (.ref bA), some (.ref kA), some (.ref N3), some (.ref SL), some (.ref HL), v8, v9, none, none] ∧ But p H H' ∧ PotAt H' p ∧ TK H20 H' ∧ H' SL = some (.lst (ys.map fun y => V.ref y.T)) ∧ H' W0 = some (.lst (ws.map fun x => V.int (x : Nat))) ∧ H' HL = some (.lst (hs.map fun t => t.1)) ∧ hs.length = i ∧ ∀ t ∈ hs, ThL K S H' t.1 t.2 ∧ Wg t.2 44 1000000 (10 ^ 80 + 1))) ⟨⟨_, _, _, [], rfl, B20, p20, fun _ _ e => e, oS20, oW20, oHL, rfl, fun t ht => nomatch ht⟩⟩ (fun i σ H' _ h => ?_) ?_ ?_
    · obtain ⟨_, _, _, _, rfl, _, _, _, h, _⟩ := h
      exact SqL.of h
    · rintro i x T σ H' hx ⟨v1, v8, v9, hs, rfl, b', p', tk', oS', oW', oH', lh, hh⟩ hT
      obtain ⟨y, hy1, rfl⟩ : ∃ y, ys[i]? = some y ∧ V.ref y.T = x := by
        rw [List.getElem?_map] at hx
        cases e : ys[i]? with
        | none => rw [e] at hx; cases hx
        | some y => rw [e] at hx; exact ⟨y, rfl, Option.some.inj hx⟩
      have i6 : i < 6 := by rw [← ly]; exact (List.getElem?_eq_some_iff.mp hy1).1
      obtain ⟨y1, y2, y3⟩ := hy y (List.mem_of_getElem? hy1)
      have y1' := tk' _ _ y1
      have S2 := same_new hT (.tup [.int i, .ref y.T])
      obtain ⟨w, hw0⟩ : ∃ w, ws[i]? = some w := ⟨_, List.getElem?_eq_getElem (by omega)⟩
      have ix : atI (ws.map fun x => V.int (x : Nat)) (i : Nat) = some (.int (w : Nat)) := at_of (j := i) rfl (by rw [List.getElem?_map, hw0] <;> rfl)
      have fin : ∀ (v : V) (d : PyData) (H2 : Hp), But p H' H2 → PotAt H2 p → TK H' H2 → ThL K S H2 v d → Wg d 44 1000000 (10 ^ 80 + 1) → ∀ X, X = upd H2 HL (.lst ((hs.map fun t => t.1) ++ [v])) →
          But p H X ∧ PotAt X p ∧ TK H20 X ∧ X SL = some (.lst (ys.map fun y => V.ref y.T)) ∧ X W0 = some (.lst (ws.map fun x => V.int (x : Nat))) ∧ X HL = some (.lst ((hs ++ [(v, d)]).map fun t => t.1)) ∧ (hs ++ [(v, d)]).length = i + 1 ∧ ∀ t ∈ hs ++ [(v, d)], ThL K S X t.1 t.2 ∧ Wg t.2 44 1000000 (10 ^ 80 + 1) := by
        rintro v d H2 c1 c2 c3 c4 c5 X rfl
        have oH2 := c1 _ _ nHp oH'
        have thX : ∀ v d, ThL K S H2 v d → ThL K S (upd H2 HL (.lst ((hs.map fun t => t.1) ++ [v]))) v d := fun v' d' h => h.but SH_ But.upd oH2
        refine ⟨but_upd hH0 (b'.trans c1), c2.upd nHp.symm, tk'.trans (c3.trans (TK.upd oH2)), (upd_ne nSH).trans (c1 _ _ pN.symm oS'), (upd_ne nWH).trans (c1 _ _ nW oW'), by rw [upd_same, List.map_append] <;> rfl, by rw [List.length_append, lh] <;> rfl, fun t ht => ?_⟩
        rcases List.mem_append.mp ht with h3 | h3
        · obtain ⟨a1, a2⟩ := hh t h3
          obtain ⟨_, _, hp', _⟩ := p'
          exact ⟨(a1.but Sp_ c1 hp').but SH_ But.upd oH2, a2⟩
        · have := List.mem_singleton.mp h3
          subst this
          exact ⟨c4.but SH_ But.upd oH2, c5⟩
      have ll : (hs.map fun t => t.1).length ≤ 20 := by rw [List.length_map]; omega
      have g0 : ThL K S H' y.v y.d := th_tk y2.th y2.lf tk'
      have oH2 := S2 _ _ oH'
      have oT2 : upd H' T (HO.tup [V.int i, V.ref y.T]) T = some (.tup [.int (i : Nat), .ref y.T]) := upd_same
      generalize hX2 : upd H' T (HO.tup [V.int i, V.ref y.T]) = X2 at S2 oH2 oT2 ⊢
      have p2' := p'.same S2
      have y1'' := S2 _ _ y1'
      have oW'' := S2 _ _ oW'
      try walk_at "go"
      refine ite2 (fun e => ?_) (fun e => ?_)
      · have sX := Sof _ _ p2' oH2
        have wg := y2.wg
        have g1 := g0.same S2
        try walk_at "go"
        intro v' d' H3 b3 p3 th3 w3
        have oH3 := b3 _ _ nHp oH2
        try walk_at "go"
        exact ⟨⟨_, _, _, hs ++ [(v', d')], rfl, fin v' d' H3 ((same_but S2).trans b3) p3 ((TK.same S2).trans (TK.but b3 p2')) th3 (w3.mono (by decide) (by decide) (by decide)) _ rfl⟩⟩
      · try walk_at "go"
        exact ⟨⟨_, _, _, hs ++ [(y.v, y.d)], rfl, fin y.v y.d _ (same_but S2) p2' (TK.same S2) (g0.same S2) (y2.wg.mono (by decide) (by decide) (by decide)) _ rfl⟩⟩
    rintro σ H' ⟨v1, v8, v9, hs, rfl, b', p', tk', oS', oW', oH', lh, hh⟩
    rw [List.length_map, ly] at lh
    have wl : Wg (.list (hs.map fun t => t.2)) 45 ((1000000 + 4) * 6 + 4) (10 ^ 80 + 1) := Wg.lst (Wgs.all (fun d hd => by
      obtain ⟨t, ht, rfl⟩ := List.mem_map.mp hd
      exact (hh t ht).2) (by rw [List.length_map, lh]; exact Nat.le_refl _))
    have th0 : Th K p H' (.ref HL) (.list (hs.map fun t => t.2)) := Th.lst nHp nsH oH' fun t ht => (hh t ht).1.th Sp_
    obtain ⟨dl, hdl⟩ : ∃ d : PyData, d = .list (hs.map fun t => t.2) := ⟨_, rfl⟩
    rw [← hdl] at wl th0
    have sh1 := wl.shw
    have sh2 : dl.depth ≤ 60 := Nat.le_trans wl.dep (by decide)
    have sh3 : dl.shown.length ≤ sizeLine := shown_wz sh1 (Nat.le_trans wl.len (by decide))
    try walk_at "go"
    intro R1 hR1
    generalize eH21 : upd _ R1 _ = H21
    have SH21 := newS eH21 hR1
    have oR1 := newO eH21
    have p21 := p'.same SH21
    try walk_at "go"
    intro e9 H22 e90 e91 b22 p22
    have oR22 := b22 _ _ (pot_ne p' hR1) oR1
    try walk_at "go"
    intro R2 hR2
    generalize eH23 : upd _ R2 _ = H23
    have SH23 := newS eH23 hR2
    have oR2 := newO eH23
    intro nsR
    have oR23 := SH23 _ _ oR22
    try walk_at "go"
    intro R3 hR3
    generalize eH24 : upd _ R3 _ = H24
    have SH24 := newS eH24 hR3
    have oR3 := newO eH24
    have oR3' : H24 R3 = some (.lst (rgV 0 8 ++ [V.int e9])) := oR3
    have hc : ∀ x ∈ rgV 0 8 ++ [V.int e9], ∃ c : Nat, x = .int (c : Nat) ∧ c < 8 := fun x hx => by
      rcases List.mem_append.mp hx with h | h
      · have h : x ∈ [V.int 0, .int 1, .int 2, .int 3, .int 4, .int 5, .int 6, .int 7] := h
        simp only [List.mem_cons, List.not_mem_nil, or_false] at h
        rcases h with rfl | rfl | rfl | rfl | rfl | rfl | rfl | rfl
        · exact ⟨0, rfl, by decide⟩
        · exact ⟨1, rfl, by decide⟩
        · exact ⟨2, rfl, by decide⟩
        · exact ⟨3, rfl, by decide⟩
        · exact ⟨4, rfl, by decide⟩
        · exact ⟨5, rfl, by decide⟩
        · exact ⟨6, rfl, by decide⟩
        · exact ⟨7, rfl, by decide⟩
      · have := List.mem_singleton.mp h
        exact ⟨e9.toNat, by rw [this, show ((e9.toNat : Nat) : Int) = e9 by omega], by omega⟩
    have up : ∀ v d, ThL K S H' v d → ThL K S H24 v d := fun v d h => by
      obtain ⟨_, _, h1, _⟩ := p21
      exact ((h.same SH21).but Sp_ b22 h1).same (SH23.trans SH24)
    have oH24 := SH24 _ _ (SH23 _ _ (b22 _ _ nHp (SH21 _ _ oH')))
    have B24 : But p H H24 := b'.trans ((same_but SH21).trans (b22.trans (same_but (SH23.trans SH24))))
    obtain ⟨t1, t2, t3, t4, t5, t6, rfl⟩ : ∃ t1 t2 t3 t4 t5 t6, hs = [t1, t2, t3, t4, t5, t6] := by
      match hs, lh with
      | [t1, t2, t3, t4, t5, t6], _ => exact ⟨t1, t2, t3, t4, t5, t6, rfl⟩
    have xa : X6.at_ K p H24 HL ⟨t1, t2, t3, t4, t5, t6⟩ := by
      have m1 := hh t1 (by simp)
      have m2 := hh t2 (by simp)
      have m3 := hh t3 (by simp)
      have m4 := hh t4 (by simp)
      have m5 := hh t5 (by simp)
      have m6 := hh t6 (by simp)
      exact ⟨oH24, (up _ _ m1.1).th Sp_, (up _ _ m2.1).th Sp_, (up _ _ m3.1).th Sp_, (up _ _ m4.1).th Sp_, (up _ _ m5.1).th Sp_, (up _ _ m6.1).th Sp_, Nat.le_trans (nsz_wt _) m2.2.len, Nat.le_trans (nsz_wt _) m4.2.len, Nat.le_trans m4.2.dep (by decide)⟩
    have th24 : Th K p H24 (.ref HL) (.list ([t1, t2, t3, t4, t5, t6].map fun t => t.2)) := Th.lst nHp nsH oH24 fun t ht => (up _ _ (hh t ht).1).th Sp_
    rw [← hdl] at th24
    clear hh th0
    try walk_at "go"
    refine for_list (K := K) (a := R3) (xs := rgV 0 8 ++ [V.int e9]) (fun i σ H5 => Kept (∃ w11 : Option V, σ = [some (.ref p), v1, some (.ref W0), some (.ref bA), some (.ref kA), some (.ref N3), some (.ref SL), some (.ref HL), v8, v9, some (.str dl.shown), w11] ∧ Same H24 H5)) ⟨⟨_, rfl, Same.refl _⟩⟩ (fun i σ H5 _ h => ?_) ?_ ?_
    · obtain ⟨_, rfl, h⟩ := h
      exact SqL.of (h _ _ oR3')
    · rintro i x σ H5 hx ⟨w11, rfl, S5⟩
      obtain ⟨c, rfl, c8⟩ := hc x (List.mem_of_getElem? hx)
      have xa5 := xa.same S5
      try walk_at "go"
      intro H6 S6
      have xa6 := xa5.same S6
      try walk_at "go"
      intro H7 S7
      try walk_at "go"
      exact ifF (dec_ne rfl) ⟨⟨_, rfl, S5.trans (S6.trans S7)⟩⟩
    · rintro σ H5 ⟨w11, rfl, S5⟩
      have th5 := th24.same S5
      try walk_at "go"
      rw [show decide (V.str dl.shown = V.str dl.shown) = true from dec_self _]
      exact q _ (B24.trans (same_but S5))
/-! SPLIT -/
def spLaw (K : PySem.W.Frag) : Sp := fun vs H Q _ => ∃ (a : Addr) (ns : List Int), vs = [.ref a] ∧ SqL K H a (ns.map V.int) ∧ ns.length ≤ 63 ∧ ∀ H', Q (.bl true) H'
theorem k_law {f : Addr} {fd : FuncData} (F : Fun K "law" "law" s_law f fd) (D__law_pot : Dn P w K mg base 1 "_law_pot" ["_law_script", "_law_k"] (spPot2 K)) (D__law_right : Dn P w K mg base 66 "_law_right" ["_law_pot_here"] (spRight24 K)) : FnG P w K mg base CX0 71 f fd ["_law_script"] (spLaw K) := by
  refine okG0 F sc_law (fun vs H Q E h => ?_) (fun cdv A outer s H vs Q E hr h => ⟨_, (pss_one (ps_ret (pe_callB (kk (K := K) (F := rAll) (P := CallR _ _) (cr_all rfl)) (by rfl) B.all_ (by decide +kernel) (pa_cons (pe_lc (own := [("_law_k", 1)]) (g := gName 1) (tt := tYes) rfl sc_law.nd (pi_range1 (by rfl) B.range_ (pa_cons (pe_callB (call_max2 rfl) (by rfl) B.max_ (by decide +kernel) (pa_cons pe_int (pa_cons (pe_callB (call_min2 rfl) (by rfl) B.min_ (by decide +kernel) (pa_cons (pe_callB (lenK (K := K)) (by rfl) B.len_ (by decide +kernel) (pa_cons (pv 0) pa_nil)) (pa_cons pe_int pa_nil))) pa_nil))) pa_nil)) (blkOk_by (own := [("_law_k", 1)]) (N := ["_law_script", "_law_k"]) (sc := defScope s_law) (by decide +kernel)) (fun _ _ _ _ _ => (pg_name (i := 1) sc_law.nd rfl (Or.inl rfl))) (fun _ _ _ _ _ => pts_nil) (fun _ _ _ _ _ => (pe_cD D__law_right (hr.less (by decide)) rfl (pa_cons (pe_cD D__law_pot (hr.less (by decide)) rfl (pa_cons (pv 0) (pa_cons (pv 1) pa_nil))) pa_nil)))) pa_nil)))), ?_⟩)
  · obtain ⟨a, ns, rfl, _⟩ := h; rfl
  · obtain ⟨a, ns, rfl, hs, hn, q⟩ := h
    refine ⟨_, rfl, a, _, rfl, .inl hs, _, _, rfl, _, _, rfl, _, rfl, ?_, ?_, fun D hD => ?_⟩
    · split <;> split <;> omega
    · split <;> split <;> omega
    have hN : (if (if (8 : Int) < ((ns.map V.int).length : Nat) then (8 : Int) else ((ns.map V.int).length : Nat)) > 1 then (if (8 : Int) < ((ns.map V.int).length : Nat) then (8 : Int) else ((ns.map V.int).length : Nat)) else 1).toNat ≤ 8 := by split <;> split <;> omega
    generalize (if (if (8 : Int) < ((ns.map V.int).length : Nat) then (8 : Int) else ((ns.map V.int).length : Nat)) > 1 then (if (8 : Int) < ((ns.map V.int).length : Nat) then (8 : Int) else ((ns.map V.int).length : Nat)) else 1).toNat = n at hN
    refine lc_range (lo := 0) (n := n) (fun i H2 => Same H H2 ∧ H2 D = some (.lst ((List.replicate i true).map V.bl))) ⟨same_new hD _, upd_same⟩ ?_ ?_
    · rintro i H2 hi ⟨S2, hD2⟩
      refine ⟨rfl, ?_⟩
      refine ⟨_, rfl, _, rfl, a, ns, i, by show [V.ref a, V.int (0 + (i : Int))] = _; rw [Int.zero_add], S2.seq hs, by omega, fun p H3 np S3 p3 => ?_⟩
      refine ⟨p, rfl, p3, fun H4 b4 => ?_⟩
      have S4 := but_same np S3 b4
      exact ⟨_, S4 _ _ hD2, by rw [rep_len]; exact small1000 (by omega), but_same hD (S2.trans S4) But.upd, by rw [upd_same, rep_snoc]⟩
    · rintro H2 ⟨S2, hD2⟩
      refine ⟨D, _, rfl, SqL.of hD2, ?_⟩
      rw [rep_all]
      exact q _
end
structure AllD (K : PySem.W.Frag) (mg : Str → Option Value) : Prop where
  d_is_whole : Df K mg "is_whole" s_is_whole ["thing"]
  d_is_within : Df K mg "is_within" s_is_within ["thing", "least", "most"]
  d_is_row_of : Df K mg "is_row_of" s_is_row_of ["thing", "many"]
  d_want_whole : Df K mg "want_whole" s_want_whole ["thing"]
  d_want_within : Df K mg "want_within" s_want_within ["thing", "least", "most"]
  d_is_end : Df K mg "is_end" s_is_end ["thing"]
  d_is_deed : Df K mg "is_deed" s_is_deed ["thing"]
  d_put_through : Df K mg "put_through" s_put_through ["deed", "value"]
  d_whole_deed : Df K mg "whole_deed" s_whole_deed ["add", "low", "high"]
  d_one_behind : Df K mg "one_behind" s_one_behind ["one", "other"]
  d_want_many : Df K mg "want_many" s_want_many ["many"]
  d_is_tree : Df K mg "is_tree" s_is_tree ["thing", "many"]
  d_want_deeds : Df K mg "want_deeds" s_want_deeds ["deeds"]
  d_want_tree : Df K mg "want_tree" s_want_tree ["tree", "many"]
  d_folded_of : Df K mg "folded_of" s_folded_of ["deeds", "tree"]
  d_folded : Df K mg "folded" s_folded ["deeds", "tree"]
  d_shared_of : Df K mg "shared_of" s_shared_of ["deeds", "tree", "value"]
  d_shared_out : Df K mg "shared_out" s_shared_out ["deeds", "tree", "value"]
  d_halved_from : Df K mg "halved_from" s_halved_from ["first", "many"]
  d_halved : Df K mg "halved" s_halved ["many"]
  d_chained : Df K mg "chained" s_chained ["many"]
  d_is_board : Df K mg "is_board" s_is_board ["thing"]
  d_want_board : Df K mg "want_board" s_want_board ["board"]
  d_is_ask : Df K mg "is_ask" s_is_ask ["board", "thing"]
  d_are_asks : Df K mg "are_asks" s_are_asks ["board", "thing"]
  d_want_asks : Df K mg "want_asks" s_want_asks ["board", "asks"]
  d_played : Df K mg "played" s_played ["board", "asks"]
  d_all_of : Df K mg "all_of" s_all_of ["board", "asks"]
  d_ahead_of : Df K mg "ahead_of" s_ahead_of ["board", "asks"]
  d__law_pot : Df K mg "_law_pot" s__law_pot ["_law_script", "_law_k"]
  d__law_draw : Df K mg "_law_draw" s__law_draw ["_law_pot_here", "_law_many"]
  d__law_number : Df K mg "_law_number" s__law_number ["_law_pot_here"]
  d__law_deed : Df K mg "_law_deed" s__law_deed ["_law_pot_here"]
  d__law_board : Df K mg "_law_board" s__law_board ["_law_pot_here"]
  d__law_asks : Df K mg "_law_asks" s__law_asks ["_law_pot_here", "_law_board_here", "_law_most"]
  d__law_is_whole : Df K mg "_law_is_whole" s__law_is_whole ["_law_thing"]
  d__law_is_deed : Df K mg "_law_is_deed" s__law_is_deed ["_law_thing"]
  d__law_is_board : Df K mg "_law_is_board" s__law_is_board ["_law_thing"]
  d__law_is_ask : Df K mg "_law_is_ask" s__law_is_ask ["_law_board_here", "_law_thing"]
  d__law_are_asks : Df K mg "_law_are_asks" s__law_are_asks ["_law_board_here", "_law_thing"]
  d__law_other : Df K mg "_law_other" s__law_other ["_law_pot_here", "_law_thing"]
  d__law_bent : Df K mg "_law_bent" s__law_bent ["_law_pot_here", "_law_thing", "_law_deep"]
  d__law_tree : Df K mg "_law_tree" s__law_tree ["_law_pot_here", "_law_first", "_law_many"]
  d__law_leaves : Df K mg "_law_leaves" s__law_leaves ["_law_thing", "_law_deep"]
  d__law_is_tree : Df K mg "_law_is_tree" s__law_is_tree ["_law_thing", "_law_many"]
  d__law_are_deeds : Df K mg "_law_are_deeds" s__law_are_deeds ["_law_thing"]
  d__law_word : Df K mg "_law_word" s__law_word ["_law_choice", "_law_handed"]
  d__law_due : Df K mg "_law_due" s__law_due ["_law_choice", "_law_handed"]
  d__law_right : Df K mg "_law_right" s__law_right ["_law_pot_here"]
  d_law : Df K mg "law" s_law ["_law_script"]
  bl : Bl K mg
theorem all_mk {w : World} {K : PySem.W.Frag} {h : Heap} {mg : Str → Option Value} (X : K.In h) (G : h.Ns mainGlobals mg)
    {f1 f2 f3 f4 f5 f6 f7 f8 f9 f10 f11 f12 f13 f14 f15 f16 f17 f18 f19 f20 f21 f22 f23 f24 f25 f26 f27 f28 f29 f30 f31 f32 f33 f34 f35 f36 f37 f38 f39 f40 f41 f42 f43 f44 f45 f46 f47 f48 f49 f50 : Addr} {od1 an1 od2 an2 od3 an3 od4 an4 od5 an5 od6 an6 od7 an7 od8 an8 od9 an9 od10 an10 od11 an11 od12 an12 od13 an13 od14 an14 od15 an15 od16 an16 od17 an17 od18 an18 od19 an19 od20 an20 od21 an21 od22 an22 od23 an23 od24 an24 od25 an25 od26 an26 od27 an27 od28 an28 od29 an29 od30 an30 od31 an31 od32 an32 od33 an33 od34 an34 od35 an35 od36 an36 od37 an37 od38 an38 od39 an39 od40 an40 od41 an41 od42 an42 od43 an43 od44 an44 od45 an45 od46 an46 od47 an47 od48 an48 od49 an49 od50 an50 : Option Addr} {sl1 sl2 sl3 sl4 sl5 sl6 sl7 sl8 sl9 sl10 sl11 sl12 sl13 sl14 sl15 sl16 sl17 sl18 sl19 sl20 sl21 sl22 sl23 sl24 sl25 sl26 sl27 sl28 sl29 sl30 sl31 sl32 sl33 sl34 sl35 sl36 sl37 sl38 sl39 sl40 sl41 sl42 sl43 sl44 sl45 sl46 sl47 sl48 sl49 sl50 : Array (Option Value)} {oc1 kV1 dc1 pm1 cd1 ct1 oc2 kV2 dc2 pm2 cd2 ct2 oc3 kV3 dc3 pm3 cd3 ct3 oc4 kV4 dc4 pm4 cd4 ct4 oc5 kV5 dc5 pm5 cd5 ct5 oc6 kV6 dc6 pm6 cd6 ct6 oc7 kV7 dc7 pm7 cd7 ct7 oc8 kV8 dc8 pm8 cd8 ct8 oc9 kV9 dc9 pm9 cd9 ct9 oc10 kV10 dc10 pm10 cd10 ct10 oc11 kV11 dc11 pm11 cd11 ct11 oc12 kV12 dc12 pm12 cd12 ct12 oc13 kV13 dc13 pm13 cd13 ct13 oc14 kV14 dc14 pm14 cd14 ct14 oc15 kV15 dc15 pm15 cd15 ct15 oc16 kV16 dc16 pm16 cd16 ct16 oc17 kV17 dc17 pm17 cd17 ct17 oc18 kV18 dc18 pm18 cd18 ct18 oc19 kV19 dc19 pm19 cd19 ct19 oc20 kV20 dc20 pm20 cd20 ct20 oc21 kV21 dc21 pm21 cd21 ct21 oc22 kV22 dc22 pm22 cd22 ct22 oc23 kV23 dc23 pm23 cd23 ct23 oc24 kV24 dc24 pm24 cd24 ct24 oc25 kV25 dc25 pm25 cd25 ct25 oc26 kV26 dc26 pm26 cd26 ct26 oc27 kV27 dc27 pm27 cd27 ct27 oc28 kV28 dc28 pm28 cd28 ct28 oc29 kV29 dc29 pm29 cd29 ct29 oc30 kV30 dc30 pm30 cd30 ct30 oc31 kV31 dc31 pm31 cd31 ct31 oc32 kV32 dc32 pm32 cd32 ct32 oc33 kV33 dc33 pm33 cd33 ct33 oc34 kV34 dc34 pm34 cd34 ct34 oc35 kV35 dc35 pm35 cd35 ct35 oc36 kV36 dc36 pm36 cd36 ct36 oc37 kV37 dc37 pm37 cd37 ct37 oc38 kV38 dc38 pm38 cd38 ct38 oc39 kV39 dc39 pm39 cd39 ct39 oc40 kV40 dc40 pm40 cd40 ct40 oc41 kV41 dc41 pm41 cd41 ct41 oc42 kV42 dc42 pm42 cd42 ct42 oc43 kV43 dc43 pm43 cd43 ct43 oc44 kV44 dc44 pm44 cd44 ct44 oc45 kV45 dc45 pm45 cd45 ct45 oc46 kV46 dc46 pm46 cd46 ct46 oc47 kV47 dc47 pm47 cd47 ct47 oc48 kV48 dc48 pm48 cd48 ct48 oc49 kV49 dc49 pm49 cd49 ct49 oc50 kV50 dc50 pm50 cd50 ct50 : Value}
    {E0 : Addr} (aE0 : PySem.W.nsIn K mainGlobals "AskError" = some (some (.ref E0))) (xE0 : PySem.W.excIn K E0 [.type "ValueError", .type "Exception", .type "BaseException", .type "object"] "ValueError.__new__" = true) (kE0 : PySem.W.keepIn K (.ref E0) = true) (bE0 : PySem.W.subIn K (.ref E0) (.type "BaseException") = some true) (tE0 : PySem.W.typeIn K (.ref E0) = some (.type "type")) (iE0 : PySem.W.isClsIn K E0 = true)
    {E1 : Addr} (aE1 : PySem.W.nsIn K mainGlobals "NoAsk" = some (some (.ref E1))) (xE1 : PySem.W.excIn K E1 [.type "ValueError", .type "Exception", .type "BaseException", .type "object"] "ValueError.__new__" = true) (kE1 : PySem.W.keepIn K (.ref E1) = true) (bE1 : PySem.W.subIn K (.ref E1) (.type "BaseException") = some true) (tE1 : PySem.W.typeIn K (.ref E1) = some (.type "type")) (iE1 : PySem.W.isClsIn K E1 = true)
    {E2 : Addr} (aE2 : PySem.W.nsIn K mainGlobals "NoBoard" = some (some (.ref E2))) (xE2 : PySem.W.excIn K E2 [.type "ValueError", .type "Exception", .type "BaseException", .type "object"] "ValueError.__new__" = true) (kE2 : PySem.W.keepIn K (.ref E2) = true) (bE2 : PySem.W.subIn K (.ref E2) (.type "BaseException") = some true) (tE2 : PySem.W.typeIn K (.ref E2) = some (.type "type")) (iE2 : PySem.W.isClsIn K E2 = true)
    {E3 : Addr} (aE3 : PySem.W.nsIn K mainGlobals "NoCalls" = some (some (.ref E3))) (xE3 : PySem.W.excIn K E3 [.type "ValueError", .type "Exception", .type "BaseException", .type "object"] "ValueError.__new__" = true) (kE3 : PySem.W.keepIn K (.ref E3) = true) (bE3 : PySem.W.subIn K (.ref E3) (.type "BaseException") = some true) (tE3 : PySem.W.typeIn K (.ref E3) = some (.type "type")) (iE3 : PySem.W.isClsIn K E3 = true)
    {E4 : Addr} (aE4 : PySem.W.nsIn K mainGlobals "NoDeed" = some (some (.ref E4))) (xE4 : PySem.W.excIn K E4 [.type "ValueError", .type "Exception", .type "BaseException", .type "object"] "ValueError.__new__" = true) (kE4 : PySem.W.keepIn K (.ref E4) = true) (bE4 : PySem.W.subIn K (.ref E4) (.type "BaseException") = some true) (tE4 : PySem.W.typeIn K (.ref E4) = some (.type "type")) (iE4 : PySem.W.isClsIn K E4 = true)
    {E5 : Addr} (aE5 : PySem.W.nsIn K mainGlobals "NoHand" = some (some (.ref E5))) (xE5 : PySem.W.excIn K E5 [.type "ValueError", .type "Exception", .type "BaseException", .type "object"] "ValueError.__new__" = true) (kE5 : PySem.W.keepIn K (.ref E5) = true) (bE5 : PySem.W.subIn K (.ref E5) (.type "BaseException") = some true) (tE5 : PySem.W.typeIn K (.ref E5) = some (.type "type")) (iE5 : PySem.W.isClsIn K E5 = true)
    {E6 : Addr} (aE6 : PySem.W.nsIn K mainGlobals "NoNet" = some (some (.ref E6))) (xE6 : PySem.W.excIn K E6 [.type "ValueError", .type "Exception", .type "BaseException", .type "object"] "ValueError.__new__" = true) (kE6 : PySem.W.keepIn K (.ref E6) = true) (bE6 : PySem.W.subIn K (.ref E6) (.type "BaseException") = some true) (tE6 : PySem.W.typeIn K (.ref E6) = some (.type "type")) (iE6 : PySem.W.isClsIn K E6 = true)
    {E7 : Addr} (aE7 : PySem.W.nsIn K mainGlobals "NoNumber" = some (some (.ref E7))) (xE7 : PySem.W.excIn K E7 [.type "ValueError", .type "Exception", .type "BaseException", .type "object"] "ValueError.__new__" = true) (kE7 : PySem.W.keepIn K (.ref E7) = true) (bE7 : PySem.W.subIn K (.ref E7) (.type "BaseException") = some true) (tE7 : PySem.W.typeIn K (.ref E7) = some (.type "type")) (iE7 : PySem.W.isClsIn K E7 = true)
    {E8 : Addr} (aE8 : PySem.W.nsIn K mainGlobals "NoOrder" = some (some (.ref E8))) (xE8 : PySem.W.excIn K E8 [.type "ValueError", .type "Exception", .type "BaseException", .type "object"] "ValueError.__new__" = true) (kE8 : PySem.W.keepIn K (.ref E8) = true) (bE8 : PySem.W.subIn K (.ref E8) (.type "BaseException") = some true) (tE8 : PySem.W.typeIn K (.ref E8) = some (.type "type")) (iE8 : PySem.W.isClsIn K E8 = true)
    {E9 : Addr} (aE9 : PySem.W.nsIn K mainGlobals "NoRow" = some (some (.ref E9))) (xE9 : PySem.W.excIn K E9 [.type "ValueError", .type "Exception", .type "BaseException", .type "object"] "ValueError.__new__" = true) (kE9 : PySem.W.keepIn K (.ref E9) = true) (bE9 : PySem.W.subIn K (.ref E9) (.type "BaseException") = some true) (tE9 : PySem.W.typeIn K (.ref E9) = some (.type "type")) (iE9 : PySem.W.isClsIn K E9 = true)
    {E10 : Addr} (aE10 : PySem.W.nsIn K mainGlobals "NoSettings" = some (some (.ref E10))) (xE10 : PySem.W.excIn K E10 [.type "ValueError", .type "Exception", .type "BaseException", .type "object"] "ValueError.__new__" = true) (kE10 : PySem.W.keepIn K (.ref E10) = true) (bE10 : PySem.W.subIn K (.ref E10) (.type "BaseException") = some true) (tE10 : PySem.W.typeIn K (.ref E10) = some (.type "type")) (iE10 : PySem.W.isClsIn K E10 = true)
    {E11 : Addr} (aE11 : PySem.W.nsIn K mainGlobals "NoSide" = some (some (.ref E11))) (xE11 : PySem.W.excIn K E11 [.type "ValueError", .type "Exception", .type "BaseException", .type "object"] "ValueError.__new__" = true) (kE11 : PySem.W.keepIn K (.ref E11) = true) (bE11 : PySem.W.subIn K (.ref E11) (.type "BaseException") = some true) (tE11 : PySem.W.typeIn K (.ref E11) = some (.type "type")) (iE11 : PySem.W.isClsIn K E11 = true)
    {E12 : Addr} (aE12 : PySem.W.nsIn K mainGlobals "NoTable" = some (some (.ref E12))) (xE12 : PySem.W.excIn K E12 [.type "ValueError", .type "Exception", .type "BaseException", .type "object"] "ValueError.__new__" = true) (kE12 : PySem.W.keepIn K (.ref E12) = true) (bE12 : PySem.W.subIn K (.ref E12) (.type "BaseException") = some true) (tE12 : PySem.W.typeIn K (.ref E12) = some (.type "type")) (iE12 : PySem.W.isClsIn K E12 = true)
    {E13 : Addr} (aE13 : PySem.W.nsIn K mainGlobals "NoText" = some (some (.ref E13))) (xE13 : PySem.W.excIn K E13 [.type "ValueError", .type "Exception", .type "BaseException", .type "object"] "ValueError.__new__" = true) (kE13 : PySem.W.keepIn K (.ref E13) = true) (bE13 : PySem.W.subIn K (.ref E13) (.type "BaseException") = some true) (tE13 : PySem.W.typeIn K (.ref E13) = some (.type "type")) (iE13 : PySem.W.isClsIn K E13 = true)
    {E14 : Addr} (aE14 : PySem.W.nsIn K mainGlobals "NoToken" = some (some (.ref E14))) (xE14 : PySem.W.excIn K E14 [.type "ValueError", .type "Exception", .type "BaseException", .type "object"] "ValueError.__new__" = true) (kE14 : PySem.W.keepIn K (.ref E14) = true) (bE14 : PySem.W.subIn K (.ref E14) (.type "BaseException") = some true) (tE14 : PySem.W.typeIn K (.ref E14) = some (.type "type")) (iE14 : PySem.W.isClsIn K E14 = true)
    {E15 : Addr} (aE15 : PySem.W.nsIn K mainGlobals "NoTree" = some (some (.ref E15))) (xE15 : PySem.W.excIn K E15 [.type "ValueError", .type "Exception", .type "BaseException", .type "object"] "ValueError.__new__" = true) (kE15 : PySem.W.keepIn K (.ref E15) = true) (bE15 : PySem.W.subIn K (.ref E15) (.type "BaseException") = some true) (tE15 : PySem.W.typeIn K (.ref E15) = some (.type "type")) (iE15 : PySem.W.isClsIn K E15 = true)
    {E16 : Addr} (aE16 : PySem.W.nsIn K mainGlobals "TooMany" = some (some (.ref E16))) (xE16 : PySem.W.excIn K E16 [.type "ValueError", .type "Exception", .type "BaseException", .type "object"] "ValueError.__new__" = true) (kE16 : PySem.W.keepIn K (.ref E16) = true) (bE16 : PySem.W.subIn K (.ref E16) (.type "BaseException") = some true) (tE16 : PySem.W.typeIn K (.ref E16) = some (.type "type")) (iE16 : PySem.W.isClsIn K E16 = true)
    (sE7_0 : PySem.W.subIn K (.ref E7) (.ref E0) = some true)
    (sE7_1 : PySem.W.subIn K (.ref E7) (.ref E1) = some false)
    (sE7_2 : PySem.W.subIn K (.ref E7) (.ref E2) = some false)
    (sE7_3 : PySem.W.subIn K (.ref E7) (.ref E3) = some false)
    (sE7_4 : PySem.W.subIn K (.ref E7) (.ref E4) = some false)
    (sE7_5 : PySem.W.subIn K (.ref E7) (.ref E5) = some false)
    (sE7_6 : PySem.W.subIn K (.ref E7) (.ref E6) = some false)
    (sE7_7 : PySem.W.subIn K (.ref E7) (.ref E7) = some true)
    (sE7_8 : PySem.W.subIn K (.ref E7) (.ref E8) = some false)
    (sE7_9 : PySem.W.subIn K (.ref E7) (.ref E9) = some false)
    (sE7_10 : PySem.W.subIn K (.ref E7) (.ref E10) = some false)
    (sE7_11 : PySem.W.subIn K (.ref E7) (.ref E11) = some false)
    (sE7_12 : PySem.W.subIn K (.ref E7) (.ref E12) = some false)
    (sE7_13 : PySem.W.subIn K (.ref E7) (.ref E13) = some false)
    (sE7_14 : PySem.W.subIn K (.ref E7) (.ref E14) = some false)
    (sE7_15 : PySem.W.subIn K (.ref E7) (.ref E15) = some false)
    (sE7_16 : PySem.W.subIn K (.ref E7) (.ref E16) = some false)
    (sE4_0 : PySem.W.subIn K (.ref E4) (.ref E0) = some true)
    (sE4_1 : PySem.W.subIn K (.ref E4) (.ref E1) = some false)
    (sE4_2 : PySem.W.subIn K (.ref E4) (.ref E2) = some false)
    (sE4_3 : PySem.W.subIn K (.ref E4) (.ref E3) = some false)
    (sE4_4 : PySem.W.subIn K (.ref E4) (.ref E4) = some true)
    (sE4_5 : PySem.W.subIn K (.ref E4) (.ref E5) = some false)
    (sE4_6 : PySem.W.subIn K (.ref E4) (.ref E6) = some false)
    (sE4_7 : PySem.W.subIn K (.ref E4) (.ref E7) = some false)
    (sE4_8 : PySem.W.subIn K (.ref E4) (.ref E8) = some false)
    (sE4_9 : PySem.W.subIn K (.ref E4) (.ref E9) = some false)
    (sE4_10 : PySem.W.subIn K (.ref E4) (.ref E10) = some false)
    (sE4_11 : PySem.W.subIn K (.ref E4) (.ref E11) = some false)
    (sE4_12 : PySem.W.subIn K (.ref E4) (.ref E12) = some false)
    (sE4_13 : PySem.W.subIn K (.ref E4) (.ref E13) = some false)
    (sE4_14 : PySem.W.subIn K (.ref E4) (.ref E14) = some false)
    (sE4_15 : PySem.W.subIn K (.ref E4) (.ref E15) = some false)
    (sE4_16 : PySem.W.subIn K (.ref E4) (.ref E16) = some false)
    (sE2_0 : PySem.W.subIn K (.ref E2) (.ref E0) = some true)
    (sE2_1 : PySem.W.subIn K (.ref E2) (.ref E1) = some false)
    (sE2_2 : PySem.W.subIn K (.ref E2) (.ref E2) = some true)
    (sE2_3 : PySem.W.subIn K (.ref E2) (.ref E3) = some false)
    (sE2_4 : PySem.W.subIn K (.ref E2) (.ref E4) = some false)
    (sE2_5 : PySem.W.subIn K (.ref E2) (.ref E5) = some false)
    (sE2_6 : PySem.W.subIn K (.ref E2) (.ref E6) = some false)
    (sE2_7 : PySem.W.subIn K (.ref E2) (.ref E7) = some false)
    (sE2_8 : PySem.W.subIn K (.ref E2) (.ref E8) = some false)
    (sE2_9 : PySem.W.subIn K (.ref E2) (.ref E9) = some false)
    (sE2_10 : PySem.W.subIn K (.ref E2) (.ref E10) = some false)
    (sE2_11 : PySem.W.subIn K (.ref E2) (.ref E11) = some false)
    (sE2_12 : PySem.W.subIn K (.ref E2) (.ref E12) = some false)
    (sE2_13 : PySem.W.subIn K (.ref E2) (.ref E13) = some false)
    (sE2_14 : PySem.W.subIn K (.ref E2) (.ref E14) = some false)
    (sE2_15 : PySem.W.subIn K (.ref E2) (.ref E15) = some false)
    (sE2_16 : PySem.W.subIn K (.ref E2) (.ref E16) = some false)
    (sE1_0 : PySem.W.subIn K (.ref E1) (.ref E0) = some true)
    (sE1_1 : PySem.W.subIn K (.ref E1) (.ref E1) = some true)
    (sE1_2 : PySem.W.subIn K (.ref E1) (.ref E2) = some false)
    (sE1_3 : PySem.W.subIn K (.ref E1) (.ref E3) = some false)
    (sE1_4 : PySem.W.subIn K (.ref E1) (.ref E4) = some false)
    (sE1_5 : PySem.W.subIn K (.ref E1) (.ref E5) = some false)
    (sE1_6 : PySem.W.subIn K (.ref E1) (.ref E6) = some false)
    (sE1_7 : PySem.W.subIn K (.ref E1) (.ref E7) = some false)
    (sE1_8 : PySem.W.subIn K (.ref E1) (.ref E8) = some false)
    (sE1_9 : PySem.W.subIn K (.ref E1) (.ref E9) = some false)
    (sE1_10 : PySem.W.subIn K (.ref E1) (.ref E10) = some false)
    (sE1_11 : PySem.W.subIn K (.ref E1) (.ref E11) = some false)
    (sE1_12 : PySem.W.subIn K (.ref E1) (.ref E12) = some false)
    (sE1_13 : PySem.W.subIn K (.ref E1) (.ref E13) = some false)
    (sE1_14 : PySem.W.subIn K (.ref E1) (.ref E14) = some false)
    (sE1_15 : PySem.W.subIn K (.ref E1) (.ref E15) = some false)
    (sE1_16 : PySem.W.subIn K (.ref E1) (.ref E16) = some false)
    (sE15_0 : PySem.W.subIn K (.ref E15) (.ref E0) = some true)
    (sE15_1 : PySem.W.subIn K (.ref E15) (.ref E1) = some false)
    (sE15_2 : PySem.W.subIn K (.ref E15) (.ref E2) = some false)
    (sE15_3 : PySem.W.subIn K (.ref E15) (.ref E3) = some false)
    (sE15_4 : PySem.W.subIn K (.ref E15) (.ref E4) = some false)
    (sE15_5 : PySem.W.subIn K (.ref E15) (.ref E5) = some false)
    (sE15_6 : PySem.W.subIn K (.ref E15) (.ref E6) = some false)
    (sE15_7 : PySem.W.subIn K (.ref E15) (.ref E7) = some false)
    (sE15_8 : PySem.W.subIn K (.ref E15) (.ref E8) = some false)
    (sE15_9 : PySem.W.subIn K (.ref E15) (.ref E9) = some false)
    (sE15_10 : PySem.W.subIn K (.ref E15) (.ref E10) = some false)
    (sE15_11 : PySem.W.subIn K (.ref E15) (.ref E11) = some false)
    (sE15_12 : PySem.W.subIn K (.ref E15) (.ref E12) = some false)
    (sE15_13 : PySem.W.subIn K (.ref E15) (.ref E13) = some false)
    (sE15_14 : PySem.W.subIn K (.ref E15) (.ref E14) = some false)
    (sE15_15 : PySem.W.subIn K (.ref E15) (.ref E15) = some true)
    (sE15_16 : PySem.W.subIn K (.ref E15) (.ref E16) = some false)
    (spG : PySem.W.specialIn K (.builtin "object.__class__") "__get__" = some (some (.builtin "getset_descriptor.__get__"))) (tkG : PySem.W.takesIn K (.builtin "object.__class__") = some true)
    (ga7 : PySem.W.findIn K (.ref E7) "__getattribute__" = some (some (.builtin "BaseException.__getattribute__"))) (gt7 : PySem.W.findIn K (.ref E7) "__getattr__" = some none) (hi7 : PySem.W.hasDictIn K E7 = true) (fc7 : PySem.W.findIn K (.ref E7) "__class__" = some (some (.builtin "object.__class__"))) (mo7 : PySem.W.mroIn K E7 (.type "object") = some true) (vE7 : PySem.W.subIn K (.ref E7) (.type "ValueError") = some true)
    (ga4 : PySem.W.findIn K (.ref E4) "__getattribute__" = some (some (.builtin "BaseException.__getattribute__"))) (gt4 : PySem.W.findIn K (.ref E4) "__getattr__" = some none) (hi4 : PySem.W.hasDictIn K E4 = true) (fc4 : PySem.W.findIn K (.ref E4) "__class__" = some (some (.builtin "object.__class__"))) (mo4 : PySem.W.mroIn K E4 (.type "object") = some true) (vE4 : PySem.W.subIn K (.ref E4) (.type "ValueError") = some true)
    (ga2 : PySem.W.findIn K (.ref E2) "__getattribute__" = some (some (.builtin "BaseException.__getattribute__"))) (gt2 : PySem.W.findIn K (.ref E2) "__getattr__" = some none) (hi2 : PySem.W.hasDictIn K E2 = true) (fc2 : PySem.W.findIn K (.ref E2) "__class__" = some (some (.builtin "object.__class__"))) (mo2 : PySem.W.mroIn K E2 (.type "object") = some true) (vE2 : PySem.W.subIn K (.ref E2) (.type "ValueError") = some true)
    (ga1 : PySem.W.findIn K (.ref E1) "__getattribute__" = some (some (.builtin "BaseException.__getattribute__"))) (gt1 : PySem.W.findIn K (.ref E1) "__getattr__" = some none) (hi1 : PySem.W.hasDictIn K E1 = true) (fc1 : PySem.W.findIn K (.ref E1) "__class__" = some (some (.builtin "object.__class__"))) (mo1 : PySem.W.mroIn K E1 (.type "object") = some true) (vE1 : PySem.W.subIn K (.ref E1) (.type "ValueError") = some true)
    (ga15 : PySem.W.findIn K (.ref E15) "__getattribute__" = some (some (.builtin "BaseException.__getattribute__"))) (gt15 : PySem.W.findIn K (.ref E15) "__getattr__" = some none) (hi15 : PySem.W.hasDictIn K E15 = true) (fc15 : PySem.W.findIn K (.ref E15) "__class__" = some (some (.builtin "object.__class__"))) (mo15 : PySem.W.mroIn K E15 (.type "object") = some true) (vE15 : PySem.W.subIn K (.ref E15) (.type "ValueError") = some true)
    (a1 : PySem.W.nsIn K mainGlobals "is_whole" = some (some (.ref f1))) (l1 : K.lookup f1 = some ⟨oc1, od1, .func (PySem.W.fnOf "is_whole" "is_whole" (defArgs s_is_whole) (defBody s_is_whole) (defScope s_is_whole) .none kV1 dc1 pm1 an1 cd1 ct1), sl1⟩) (c1 : PySem.W.codeIn K cd1 "is_whole" = true) (k1 : PySem.W.keepIn K (.ref f1) = true)
    (a2 : PySem.W.nsIn K mainGlobals "is_within" = some (some (.ref f2))) (l2 : K.lookup f2 = some ⟨oc2, od2, .func (PySem.W.fnOf "is_within" "is_within" (defArgs s_is_within) (defBody s_is_within) (defScope s_is_within) .none kV2 dc2 pm2 an2 cd2 ct2), sl2⟩) (c2 : PySem.W.codeIn K cd2 "is_within" = true) (k2 : PySem.W.keepIn K (.ref f2) = true)
    (a3 : PySem.W.nsIn K mainGlobals "is_row_of" = some (some (.ref f3))) (l3 : K.lookup f3 = some ⟨oc3, od3, .func (PySem.W.fnOf "is_row_of" "is_row_of" (defArgs s_is_row_of) (defBody s_is_row_of) (defScope s_is_row_of) .none kV3 dc3 pm3 an3 cd3 ct3), sl3⟩) (c3 : PySem.W.codeIn K cd3 "is_row_of" = true) (k3 : PySem.W.keepIn K (.ref f3) = true)
    (a4 : PySem.W.nsIn K mainGlobals "want_whole" = some (some (.ref f4))) (l4 : K.lookup f4 = some ⟨oc4, od4, .func (PySem.W.fnOf "want_whole" "want_whole" (defArgs s_want_whole) (defBody s_want_whole) (defScope s_want_whole) .none kV4 dc4 pm4 an4 cd4 ct4), sl4⟩) (c4 : PySem.W.codeIn K cd4 "want_whole" = true) (k4 : PySem.W.keepIn K (.ref f4) = true)
    (a5 : PySem.W.nsIn K mainGlobals "want_within" = some (some (.ref f5))) (l5 : K.lookup f5 = some ⟨oc5, od5, .func (PySem.W.fnOf "want_within" "want_within" (defArgs s_want_within) (defBody s_want_within) (defScope s_want_within) .none kV5 dc5 pm5 an5 cd5 ct5), sl5⟩) (c5 : PySem.W.codeIn K cd5 "want_within" = true) (k5 : PySem.W.keepIn K (.ref f5) = true)
    (a6 : PySem.W.nsIn K mainGlobals "is_end" = some (some (.ref f6))) (l6 : K.lookup f6 = some ⟨oc6, od6, .func (PySem.W.fnOf "is_end" "is_end" (defArgs s_is_end) (defBody s_is_end) (defScope s_is_end) .none kV6 dc6 pm6 an6 cd6 ct6), sl6⟩) (c6 : PySem.W.codeIn K cd6 "is_end" = true) (k6 : PySem.W.keepIn K (.ref f6) = true)
    (a7 : PySem.W.nsIn K mainGlobals "is_deed" = some (some (.ref f7))) (l7 : K.lookup f7 = some ⟨oc7, od7, .func (PySem.W.fnOf "is_deed" "is_deed" (defArgs s_is_deed) (defBody s_is_deed) (defScope s_is_deed) .none kV7 dc7 pm7 an7 cd7 ct7), sl7⟩) (c7 : PySem.W.codeIn K cd7 "is_deed" = true) (k7 : PySem.W.keepIn K (.ref f7) = true)
    (a8 : PySem.W.nsIn K mainGlobals "put_through" = some (some (.ref f8))) (l8 : K.lookup f8 = some ⟨oc8, od8, .func (PySem.W.fnOf "put_through" "put_through" (defArgs s_put_through) (defBody s_put_through) (defScope s_put_through) .none kV8 dc8 pm8 an8 cd8 ct8), sl8⟩) (c8 : PySem.W.codeIn K cd8 "put_through" = true) (k8 : PySem.W.keepIn K (.ref f8) = true)
    (a9 : PySem.W.nsIn K mainGlobals "whole_deed" = some (some (.ref f9))) (l9 : K.lookup f9 = some ⟨oc9, od9, .func (PySem.W.fnOf "whole_deed" "whole_deed" (defArgs s_whole_deed) (defBody s_whole_deed) (defScope s_whole_deed) .none kV9 dc9 pm9 an9 cd9 ct9), sl9⟩) (c9 : PySem.W.codeIn K cd9 "whole_deed" = true) (k9 : PySem.W.keepIn K (.ref f9) = true)
    (a10 : PySem.W.nsIn K mainGlobals "one_behind" = some (some (.ref f10))) (l10 : K.lookup f10 = some ⟨oc10, od10, .func (PySem.W.fnOf "one_behind" "one_behind" (defArgs s_one_behind) (defBody s_one_behind) (defScope s_one_behind) .none kV10 dc10 pm10 an10 cd10 ct10), sl10⟩) (c10 : PySem.W.codeIn K cd10 "one_behind" = true) (k10 : PySem.W.keepIn K (.ref f10) = true)
    (a11 : PySem.W.nsIn K mainGlobals "want_many" = some (some (.ref f11))) (l11 : K.lookup f11 = some ⟨oc11, od11, .func (PySem.W.fnOf "want_many" "want_many" (defArgs s_want_many) (defBody s_want_many) (defScope s_want_many) .none kV11 dc11 pm11 an11 cd11 ct11), sl11⟩) (c11 : PySem.W.codeIn K cd11 "want_many" = true) (k11 : PySem.W.keepIn K (.ref f11) = true)
    (a12 : PySem.W.nsIn K mainGlobals "is_tree" = some (some (.ref f12))) (l12 : K.lookup f12 = some ⟨oc12, od12, .func (PySem.W.fnOf "is_tree" "is_tree" (defArgs s_is_tree) (defBody s_is_tree) (defScope s_is_tree) .none kV12 dc12 pm12 an12 cd12 ct12), sl12⟩) (c12 : PySem.W.codeIn K cd12 "is_tree" = true) (k12 : PySem.W.keepIn K (.ref f12) = true)
    (a13 : PySem.W.nsIn K mainGlobals "want_deeds" = some (some (.ref f13))) (l13 : K.lookup f13 = some ⟨oc13, od13, .func (PySem.W.fnOf "want_deeds" "want_deeds" (defArgs s_want_deeds) (defBody s_want_deeds) (defScope s_want_deeds) .none kV13 dc13 pm13 an13 cd13 ct13), sl13⟩) (c13 : PySem.W.codeIn K cd13 "want_deeds" = true) (k13 : PySem.W.keepIn K (.ref f13) = true)
    (a14 : PySem.W.nsIn K mainGlobals "want_tree" = some (some (.ref f14))) (l14 : K.lookup f14 = some ⟨oc14, od14, .func (PySem.W.fnOf "want_tree" "want_tree" (defArgs s_want_tree) (defBody s_want_tree) (defScope s_want_tree) .none kV14 dc14 pm14 an14 cd14 ct14), sl14⟩) (c14 : PySem.W.codeIn K cd14 "want_tree" = true) (k14 : PySem.W.keepIn K (.ref f14) = true)
    (a15 : PySem.W.nsIn K mainGlobals "folded_of" = some (some (.ref f15))) (l15 : K.lookup f15 = some ⟨oc15, od15, .func (PySem.W.fnOf "folded_of" "folded_of" (defArgs s_folded_of) (defBody s_folded_of) (defScope s_folded_of) .none kV15 dc15 pm15 an15 cd15 ct15), sl15⟩) (c15 : PySem.W.codeIn K cd15 "folded_of" = true) (k15 : PySem.W.keepIn K (.ref f15) = true)
    (a16 : PySem.W.nsIn K mainGlobals "folded" = some (some (.ref f16))) (l16 : K.lookup f16 = some ⟨oc16, od16, .func (PySem.W.fnOf "folded" "folded" (defArgs s_folded) (defBody s_folded) (defScope s_folded) .none kV16 dc16 pm16 an16 cd16 ct16), sl16⟩) (c16 : PySem.W.codeIn K cd16 "folded" = true) (k16 : PySem.W.keepIn K (.ref f16) = true)
    (a17 : PySem.W.nsIn K mainGlobals "shared_of" = some (some (.ref f17))) (l17 : K.lookup f17 = some ⟨oc17, od17, .func (PySem.W.fnOf "shared_of" "shared_of" (defArgs s_shared_of) (defBody s_shared_of) (defScope s_shared_of) .none kV17 dc17 pm17 an17 cd17 ct17), sl17⟩) (c17 : PySem.W.codeIn K cd17 "shared_of" = true) (k17 : PySem.W.keepIn K (.ref f17) = true)
    (a18 : PySem.W.nsIn K mainGlobals "shared_out" = some (some (.ref f18))) (l18 : K.lookup f18 = some ⟨oc18, od18, .func (PySem.W.fnOf "shared_out" "shared_out" (defArgs s_shared_out) (defBody s_shared_out) (defScope s_shared_out) .none kV18 dc18 pm18 an18 cd18 ct18), sl18⟩) (c18 : PySem.W.codeIn K cd18 "shared_out" = true) (k18 : PySem.W.keepIn K (.ref f18) = true)
    (a19 : PySem.W.nsIn K mainGlobals "halved_from" = some (some (.ref f19))) (l19 : K.lookup f19 = some ⟨oc19, od19, .func (PySem.W.fnOf "halved_from" "halved_from" (defArgs s_halved_from) (defBody s_halved_from) (defScope s_halved_from) .none kV19 dc19 pm19 an19 cd19 ct19), sl19⟩) (c19 : PySem.W.codeIn K cd19 "halved_from" = true) (k19 : PySem.W.keepIn K (.ref f19) = true)
    (a20 : PySem.W.nsIn K mainGlobals "halved" = some (some (.ref f20))) (l20 : K.lookup f20 = some ⟨oc20, od20, .func (PySem.W.fnOf "halved" "halved" (defArgs s_halved) (defBody s_halved) (defScope s_halved) .none kV20 dc20 pm20 an20 cd20 ct20), sl20⟩) (c20 : PySem.W.codeIn K cd20 "halved" = true) (k20 : PySem.W.keepIn K (.ref f20) = true)
    (a21 : PySem.W.nsIn K mainGlobals "chained" = some (some (.ref f21))) (l21 : K.lookup f21 = some ⟨oc21, od21, .func (PySem.W.fnOf "chained" "chained" (defArgs s_chained) (defBody s_chained) (defScope s_chained) .none kV21 dc21 pm21 an21 cd21 ct21), sl21⟩) (c21 : PySem.W.codeIn K cd21 "chained" = true) (k21 : PySem.W.keepIn K (.ref f21) = true)
    (a22 : PySem.W.nsIn K mainGlobals "is_board" = some (some (.ref f22))) (l22 : K.lookup f22 = some ⟨oc22, od22, .func (PySem.W.fnOf "is_board" "is_board" (defArgs s_is_board) (defBody s_is_board) (defScope s_is_board) .none kV22 dc22 pm22 an22 cd22 ct22), sl22⟩) (c22 : PySem.W.codeIn K cd22 "is_board" = true) (k22 : PySem.W.keepIn K (.ref f22) = true)
    (a23 : PySem.W.nsIn K mainGlobals "want_board" = some (some (.ref f23))) (l23 : K.lookup f23 = some ⟨oc23, od23, .func (PySem.W.fnOf "want_board" "want_board" (defArgs s_want_board) (defBody s_want_board) (defScope s_want_board) .none kV23 dc23 pm23 an23 cd23 ct23), sl23⟩) (c23 : PySem.W.codeIn K cd23 "want_board" = true) (k23 : PySem.W.keepIn K (.ref f23) = true)
    (a24 : PySem.W.nsIn K mainGlobals "is_ask" = some (some (.ref f24))) (l24 : K.lookup f24 = some ⟨oc24, od24, .func (PySem.W.fnOf "is_ask" "is_ask" (defArgs s_is_ask) (defBody s_is_ask) (defScope s_is_ask) .none kV24 dc24 pm24 an24 cd24 ct24), sl24⟩) (c24 : PySem.W.codeIn K cd24 "is_ask" = true) (k24 : PySem.W.keepIn K (.ref f24) = true)
    (a25 : PySem.W.nsIn K mainGlobals "are_asks" = some (some (.ref f25))) (l25 : K.lookup f25 = some ⟨oc25, od25, .func (PySem.W.fnOf "are_asks" "are_asks" (defArgs s_are_asks) (defBody s_are_asks) (defScope s_are_asks) .none kV25 dc25 pm25 an25 cd25 ct25), sl25⟩) (c25 : PySem.W.codeIn K cd25 "are_asks" = true) (k25 : PySem.W.keepIn K (.ref f25) = true)
    (a26 : PySem.W.nsIn K mainGlobals "want_asks" = some (some (.ref f26))) (l26 : K.lookup f26 = some ⟨oc26, od26, .func (PySem.W.fnOf "want_asks" "want_asks" (defArgs s_want_asks) (defBody s_want_asks) (defScope s_want_asks) .none kV26 dc26 pm26 an26 cd26 ct26), sl26⟩) (c26 : PySem.W.codeIn K cd26 "want_asks" = true) (k26 : PySem.W.keepIn K (.ref f26) = true)
    (a27 : PySem.W.nsIn K mainGlobals "played" = some (some (.ref f27))) (l27 : K.lookup f27 = some ⟨oc27, od27, .func (PySem.W.fnOf "played" "played" (defArgs s_played) (defBody s_played) (defScope s_played) .none kV27 dc27 pm27 an27 cd27 ct27), sl27⟩) (c27 : PySem.W.codeIn K cd27 "played" = true) (k27 : PySem.W.keepIn K (.ref f27) = true)
    (a28 : PySem.W.nsIn K mainGlobals "all_of" = some (some (.ref f28))) (l28 : K.lookup f28 = some ⟨oc28, od28, .func (PySem.W.fnOf "all_of" "all_of" (defArgs s_all_of) (defBody s_all_of) (defScope s_all_of) .none kV28 dc28 pm28 an28 cd28 ct28), sl28⟩) (c28 : PySem.W.codeIn K cd28 "all_of" = true) (k28 : PySem.W.keepIn K (.ref f28) = true)
    (a29 : PySem.W.nsIn K mainGlobals "ahead_of" = some (some (.ref f29))) (l29 : K.lookup f29 = some ⟨oc29, od29, .func (PySem.W.fnOf "ahead_of" "ahead_of" (defArgs s_ahead_of) (defBody s_ahead_of) (defScope s_ahead_of) .none kV29 dc29 pm29 an29 cd29 ct29), sl29⟩) (c29 : PySem.W.codeIn K cd29 "ahead_of" = true) (k29 : PySem.W.keepIn K (.ref f29) = true)
    (a30 : PySem.W.nsIn K mainGlobals "_law_pot" = some (some (.ref f30))) (l30 : K.lookup f30 = some ⟨oc30, od30, .func (PySem.W.fnOf "_law_pot" "_law_pot" (defArgs s__law_pot) (defBody s__law_pot) (defScope s__law_pot) .none kV30 dc30 pm30 an30 cd30 ct30), sl30⟩) (c30 : PySem.W.codeIn K cd30 "_law_pot" = true) (k30 : PySem.W.keepIn K (.ref f30) = true)
    (a31 : PySem.W.nsIn K mainGlobals "_law_draw" = some (some (.ref f31))) (l31 : K.lookup f31 = some ⟨oc31, od31, .func (PySem.W.fnOf "_law_draw" "_law_draw" (defArgs s__law_draw) (defBody s__law_draw) (defScope s__law_draw) .none kV31 dc31 pm31 an31 cd31 ct31), sl31⟩) (c31 : PySem.W.codeIn K cd31 "_law_draw" = true) (k31 : PySem.W.keepIn K (.ref f31) = true)
    (a32 : PySem.W.nsIn K mainGlobals "_law_number" = some (some (.ref f32))) (l32 : K.lookup f32 = some ⟨oc32, od32, .func (PySem.W.fnOf "_law_number" "_law_number" (defArgs s__law_number) (defBody s__law_number) (defScope s__law_number) .none kV32 dc32 pm32 an32 cd32 ct32), sl32⟩) (c32 : PySem.W.codeIn K cd32 "_law_number" = true) (k32 : PySem.W.keepIn K (.ref f32) = true)
    (a33 : PySem.W.nsIn K mainGlobals "_law_deed" = some (some (.ref f33))) (l33 : K.lookup f33 = some ⟨oc33, od33, .func (PySem.W.fnOf "_law_deed" "_law_deed" (defArgs s__law_deed) (defBody s__law_deed) (defScope s__law_deed) .none kV33 dc33 pm33 an33 cd33 ct33), sl33⟩) (c33 : PySem.W.codeIn K cd33 "_law_deed" = true) (k33 : PySem.W.keepIn K (.ref f33) = true)
    (a34 : PySem.W.nsIn K mainGlobals "_law_board" = some (some (.ref f34))) (l34 : K.lookup f34 = some ⟨oc34, od34, .func (PySem.W.fnOf "_law_board" "_law_board" (defArgs s__law_board) (defBody s__law_board) (defScope s__law_board) .none kV34 dc34 pm34 an34 cd34 ct34), sl34⟩) (c34 : PySem.W.codeIn K cd34 "_law_board" = true) (k34 : PySem.W.keepIn K (.ref f34) = true)
    (a35 : PySem.W.nsIn K mainGlobals "_law_asks" = some (some (.ref f35))) (l35 : K.lookup f35 = some ⟨oc35, od35, .func (PySem.W.fnOf "_law_asks" "_law_asks" (defArgs s__law_asks) (defBody s__law_asks) (defScope s__law_asks) .none kV35 dc35 pm35 an35 cd35 ct35), sl35⟩) (c35 : PySem.W.codeIn K cd35 "_law_asks" = true) (k35 : PySem.W.keepIn K (.ref f35) = true)
    (a36 : PySem.W.nsIn K mainGlobals "_law_is_whole" = some (some (.ref f36))) (l36 : K.lookup f36 = some ⟨oc36, od36, .func (PySem.W.fnOf "_law_is_whole" "_law_is_whole" (defArgs s__law_is_whole) (defBody s__law_is_whole) (defScope s__law_is_whole) .none kV36 dc36 pm36 an36 cd36 ct36), sl36⟩) (c36 : PySem.W.codeIn K cd36 "_law_is_whole" = true) (k36 : PySem.W.keepIn K (.ref f36) = true)
    (a37 : PySem.W.nsIn K mainGlobals "_law_is_deed" = some (some (.ref f37))) (l37 : K.lookup f37 = some ⟨oc37, od37, .func (PySem.W.fnOf "_law_is_deed" "_law_is_deed" (defArgs s__law_is_deed) (defBody s__law_is_deed) (defScope s__law_is_deed) .none kV37 dc37 pm37 an37 cd37 ct37), sl37⟩) (c37 : PySem.W.codeIn K cd37 "_law_is_deed" = true) (k37 : PySem.W.keepIn K (.ref f37) = true)
    (a38 : PySem.W.nsIn K mainGlobals "_law_is_board" = some (some (.ref f38))) (l38 : K.lookup f38 = some ⟨oc38, od38, .func (PySem.W.fnOf "_law_is_board" "_law_is_board" (defArgs s__law_is_board) (defBody s__law_is_board) (defScope s__law_is_board) .none kV38 dc38 pm38 an38 cd38 ct38), sl38⟩) (c38 : PySem.W.codeIn K cd38 "_law_is_board" = true) (k38 : PySem.W.keepIn K (.ref f38) = true)
    (a39 : PySem.W.nsIn K mainGlobals "_law_is_ask" = some (some (.ref f39))) (l39 : K.lookup f39 = some ⟨oc39, od39, .func (PySem.W.fnOf "_law_is_ask" "_law_is_ask" (defArgs s__law_is_ask) (defBody s__law_is_ask) (defScope s__law_is_ask) .none kV39 dc39 pm39 an39 cd39 ct39), sl39⟩) (c39 : PySem.W.codeIn K cd39 "_law_is_ask" = true) (k39 : PySem.W.keepIn K (.ref f39) = true)
    (a40 : PySem.W.nsIn K mainGlobals "_law_are_asks" = some (some (.ref f40))) (l40 : K.lookup f40 = some ⟨oc40, od40, .func (PySem.W.fnOf "_law_are_asks" "_law_are_asks" (defArgs s__law_are_asks) (defBody s__law_are_asks) (defScope s__law_are_asks) .none kV40 dc40 pm40 an40 cd40 ct40), sl40⟩) (c40 : PySem.W.codeIn K cd40 "_law_are_asks" = true) (k40 : PySem.W.keepIn K (.ref f40) = true)
    (a41 : PySem.W.nsIn K mainGlobals "_law_other" = some (some (.ref f41))) (l41 : K.lookup f41 = some ⟨oc41, od41, .func (PySem.W.fnOf "_law_other" "_law_other" (defArgs s__law_other) (defBody s__law_other) (defScope s__law_other) .none kV41 dc41 pm41 an41 cd41 ct41), sl41⟩) (c41 : PySem.W.codeIn K cd41 "_law_other" = true) (k41 : PySem.W.keepIn K (.ref f41) = true)
    (a42 : PySem.W.nsIn K mainGlobals "_law_bent" = some (some (.ref f42))) (l42 : K.lookup f42 = some ⟨oc42, od42, .func (PySem.W.fnOf "_law_bent" "_law_bent" (defArgs s__law_bent) (defBody s__law_bent) (defScope s__law_bent) .none kV42 dc42 pm42 an42 cd42 ct42), sl42⟩) (c42 : PySem.W.codeIn K cd42 "_law_bent" = true) (k42 : PySem.W.keepIn K (.ref f42) = true)
    (a43 : PySem.W.nsIn K mainGlobals "_law_tree" = some (some (.ref f43))) (l43 : K.lookup f43 = some ⟨oc43, od43, .func (PySem.W.fnOf "_law_tree" "_law_tree" (defArgs s__law_tree) (defBody s__law_tree) (defScope s__law_tree) .none kV43 dc43 pm43 an43 cd43 ct43), sl43⟩) (c43 : PySem.W.codeIn K cd43 "_law_tree" = true) (k43 : PySem.W.keepIn K (.ref f43) = true)
    (a44 : PySem.W.nsIn K mainGlobals "_law_leaves" = some (some (.ref f44))) (l44 : K.lookup f44 = some ⟨oc44, od44, .func (PySem.W.fnOf "_law_leaves" "_law_leaves" (defArgs s__law_leaves) (defBody s__law_leaves) (defScope s__law_leaves) .none kV44 dc44 pm44 an44 cd44 ct44), sl44⟩) (c44 : PySem.W.codeIn K cd44 "_law_leaves" = true) (k44 : PySem.W.keepIn K (.ref f44) = true)
    (a45 : PySem.W.nsIn K mainGlobals "_law_is_tree" = some (some (.ref f45))) (l45 : K.lookup f45 = some ⟨oc45, od45, .func (PySem.W.fnOf "_law_is_tree" "_law_is_tree" (defArgs s__law_is_tree) (defBody s__law_is_tree) (defScope s__law_is_tree) .none kV45 dc45 pm45 an45 cd45 ct45), sl45⟩) (c45 : PySem.W.codeIn K cd45 "_law_is_tree" = true) (k45 : PySem.W.keepIn K (.ref f45) = true)
    (a46 : PySem.W.nsIn K mainGlobals "_law_are_deeds" = some (some (.ref f46))) (l46 : K.lookup f46 = some ⟨oc46, od46, .func (PySem.W.fnOf "_law_are_deeds" "_law_are_deeds" (defArgs s__law_are_deeds) (defBody s__law_are_deeds) (defScope s__law_are_deeds) .none kV46 dc46 pm46 an46 cd46 ct46), sl46⟩) (c46 : PySem.W.codeIn K cd46 "_law_are_deeds" = true) (k46 : PySem.W.keepIn K (.ref f46) = true)
    (a47 : PySem.W.nsIn K mainGlobals "_law_word" = some (some (.ref f47))) (l47 : K.lookup f47 = some ⟨oc47, od47, .func (PySem.W.fnOf "_law_word" "_law_word" (defArgs s__law_word) (defBody s__law_word) (defScope s__law_word) .none kV47 dc47 pm47 an47 cd47 ct47), sl47⟩) (c47 : PySem.W.codeIn K cd47 "_law_word" = true) (k47 : PySem.W.keepIn K (.ref f47) = true)
    (a48 : PySem.W.nsIn K mainGlobals "_law_due" = some (some (.ref f48))) (l48 : K.lookup f48 = some ⟨oc48, od48, .func (PySem.W.fnOf "_law_due" "_law_due" (defArgs s__law_due) (defBody s__law_due) (defScope s__law_due) .none kV48 dc48 pm48 an48 cd48 ct48), sl48⟩) (c48 : PySem.W.codeIn K cd48 "_law_due" = true) (k48 : PySem.W.keepIn K (.ref f48) = true)
    (a49 : PySem.W.nsIn K mainGlobals "_law_right" = some (some (.ref f49))) (l49 : K.lookup f49 = some ⟨oc49, od49, .func (PySem.W.fnOf "_law_right" "_law_right" (defArgs s__law_right) (defBody s__law_right) (defScope s__law_right) .none kV49 dc49 pm49 an49 cd49 ct49), sl49⟩) (c49 : PySem.W.codeIn K cd49 "_law_right" = true) (k49 : PySem.W.keepIn K (.ref f49) = true)
    (a50 : PySem.W.nsIn K mainGlobals "law" = some (some (.ref f50))) (l50 : K.lookup f50 = some ⟨oc50, od50, .func (PySem.W.fnOf "law" "law" (defArgs s_law) (defBody s_law) (defScope s_law) .none kV50 dc50 pm50 an50 cd50 ct50), sl50⟩) (c50 : PySem.W.codeIn K cd50 "law" = true) (k50 : PySem.W.keepIn K (.ref f50) = true)
    (z0 : PySem.W.nsIn K mainGlobals "ValueError" = some none)
    (z1 : PySem.W.nsIn K mainGlobals "all" = some none)
    (z2 : PySem.W.nsIn K mainGlobals "bool" = some none)
    (z3 : PySem.W.nsIn K mainGlobals "e" = some none)
    (z4 : PySem.W.nsIn K mainGlobals "enumerate" = some none)
    (z5 : PySem.W.nsIn K mainGlobals "int" = some none)
    (z6 : PySem.W.nsIn K mainGlobals "isinstance" = some none)
    (z7 : PySem.W.nsIn K mainGlobals "len" = some none)
    (z8 : PySem.W.nsIn K mainGlobals "list" = some none)
    (z9 : PySem.W.nsIn K mainGlobals "max" = some none)
    (z10 : PySem.W.nsIn K mainGlobals "min" = some none)
    (z11 : PySem.W.nsIn K mainGlobals "range" = some none)
    (z12 : PySem.W.nsIn K mainGlobals "repr" = some none)
    (z13 : PySem.W.nsIn K mainGlobals "str" = some none)
    (z14 : PySem.W.nsIn K mainGlobals "tuple" = some none)
    {tc0_0 : Tok} {ga0 : Addr} {gd0 : Option Addr} {gn0 : Nat} {gs0 : Array (Option Value)} (cst0 : PySem.W.nsIn K mainGlobals "LOOK" = some (some (.ref ga0))) (cstl0 : K.lookup ga0 = some ⟨.type "tuple", gd0, .seq #[.int 0 tc0_0, .none, .none] gn0, gs0⟩)
    {tc1 : Tok} (cst1 : PySem.W.nsIn K mainGlobals "MOST_DEEDS" = some (some (.int (40) tc1)))
    {tc2 : Tok} (cst2 : PySem.W.nsIn K mainGlobals "MOST_BOXES" = some (some (.int (16) tc2)))
    {tc3 : Tok} (cst3 : PySem.W.nsIn K mainGlobals "HANDS" = some (some (.int (16) tc3)))
    : AllD K mg := by
  exact ⟨Df.of l1 c1 k1 (PySem.W.mg_of X G a1) (fun _ _ _ _ _ _ us hl => match us, hl with | [_], _ => rfl), Df.of l2 c2 k2 (PySem.W.mg_of X G a2) (fun _ _ _ _ _ _ us hl => match us, hl with | [_, _, _], _ => rfl), Df.of l3 c3 k3 (PySem.W.mg_of X G a3) (fun _ _ _ _ _ _ us hl => match us, hl with | [_, _], _ => rfl), Df.of l4 c4 k4 (PySem.W.mg_of X G a4) (fun _ _ _ _ _ _ us hl => match us, hl with | [_], _ => rfl), Df.of l5 c5 k5 (PySem.W.mg_of X G a5) (fun _ _ _ _ _ _ us hl => match us, hl with | [_, _, _], _ => rfl), Df.of l6 c6 k6 (PySem.W.mg_of X G a6) (fun _ _ _ _ _ _ us hl => match us, hl with | [_], _ => rfl), Df.of l7 c7 k7 (PySem.W.mg_of X G a7) (fun _ _ _ _ _ _ us hl => match us, hl with | [_], _ => rfl), Df.of l8 c8 k8 (PySem.W.mg_of X G a8) (fun _ _ _ _ _ _ us hl => match us, hl with | [_, _], _ => rfl), Df.of l9 c9 k9 (PySem.W.mg_of X G a9) (fun _ _ _ _ _ _ us hl => match us, hl with | [_, _, _], _ => rfl), Df.of l10 c10 k10 (PySem.W.mg_of X G a10) (fun _ _ _ _ _ _ us hl => match us, hl with | [_, _], _ => rfl), Df.of l11 c11 k11 (PySem.W.mg_of X G a11) (fun _ _ _ _ _ _ us hl => match us, hl with | [_], _ => rfl), Df.of l12 c12 k12 (PySem.W.mg_of X G a12) (fun _ _ _ _ _ _ us hl => match us, hl with | [_, _], _ => rfl), Df.of l13 c13 k13 (PySem.W.mg_of X G a13) (fun _ _ _ _ _ _ us hl => match us, hl with | [_], _ => rfl), Df.of l14 c14 k14 (PySem.W.mg_of X G a14) (fun _ _ _ _ _ _ us hl => match us, hl with | [_, _], _ => rfl), Df.of l15 c15 k15 (PySem.W.mg_of X G a15) (fun _ _ _ _ _ _ us hl => match us, hl with | [_, _], _ => rfl), Df.of l16 c16 k16 (PySem.W.mg_of X G a16) (fun _ _ _ _ _ _ us hl => match us, hl with | [_, _], _ => rfl), Df.of l17 c17 k17 (PySem.W.mg_of X G a17) (fun _ _ _ _ _ _ us hl => match us, hl with | [_, _, _], _ => rfl), Df.of l18 c18 k18 (PySem.W.mg_of X G a18) (fun _ _ _ _ _ _ us hl => match us, hl with | [_, _, _], _ => rfl), Df.of l19 c19 k19 (PySem.W.mg_of X G a19) (fun _ _ _ _ _ _ us hl => match us, hl with | [_, _], _ => rfl), Df.of l20 c20 k20 (PySem.W.mg_of X G a20) (fun _ _ _ _ _ _ us hl => match us, hl with | [_], _ => rfl), Df.of l21 c21 k21 (PySem.W.mg_of X G a21) (fun _ _ _ _ _ _ us hl => match us, hl with | [_], _ => rfl), Df.of l22 c22 k22 (PySem.W.mg_of X G a22) (fun _ _ _ _ _ _ us hl => match us, hl with | [_], _ => rfl), Df.of l23 c23 k23 (PySem.W.mg_of X G a23) (fun _ _ _ _ _ _ us hl => match us, hl with | [_], _ => rfl), Df.of l24 c24 k24 (PySem.W.mg_of X G a24) (fun _ _ _ _ _ _ us hl => match us, hl with | [_, _], _ => rfl), Df.of l25 c25 k25 (PySem.W.mg_of X G a25) (fun _ _ _ _ _ _ us hl => match us, hl with | [_, _], _ => rfl), Df.of l26 c26 k26 (PySem.W.mg_of X G a26) (fun _ _ _ _ _ _ us hl => match us, hl with | [_, _], _ => rfl), Df.of l27 c27 k27 (PySem.W.mg_of X G a27) (fun _ _ _ _ _ _ us hl => match us, hl with | [_, _], _ => rfl), Df.of l28 c28 k28 (PySem.W.mg_of X G a28) (fun _ _ _ _ _ _ us hl => match us, hl with | [_, _], _ => rfl), Df.of l29 c29 k29 (PySem.W.mg_of X G a29) (fun _ _ _ _ _ _ us hl => match us, hl with | [_, _], _ => rfl), Df.of l30 c30 k30 (PySem.W.mg_of X G a30) (fun _ _ _ _ _ _ us hl => match us, hl with | [_, _], _ => rfl), Df.of l31 c31 k31 (PySem.W.mg_of X G a31) (fun _ _ _ _ _ _ us hl => match us, hl with | [_, _], _ => rfl), Df.of l32 c32 k32 (PySem.W.mg_of X G a32) (fun _ _ _ _ _ _ us hl => match us, hl with | [_], _ => rfl), Df.of l33 c33 k33 (PySem.W.mg_of X G a33) (fun _ _ _ _ _ _ us hl => match us, hl with | [_], _ => rfl), Df.of l34 c34 k34 (PySem.W.mg_of X G a34) (fun _ _ _ _ _ _ us hl => match us, hl with | [_], _ => rfl), Df.of l35 c35 k35 (PySem.W.mg_of X G a35) (fun _ _ _ _ _ _ us hl => match us, hl with | [_, _, _], _ => rfl), Df.of l36 c36 k36 (PySem.W.mg_of X G a36) (fun _ _ _ _ _ _ us hl => match us, hl with | [_], _ => rfl), Df.of l37 c37 k37 (PySem.W.mg_of X G a37) (fun _ _ _ _ _ _ us hl => match us, hl with | [_], _ => rfl), Df.of l38 c38 k38 (PySem.W.mg_of X G a38) (fun _ _ _ _ _ _ us hl => match us, hl with | [_], _ => rfl), Df.of l39 c39 k39 (PySem.W.mg_of X G a39) (fun _ _ _ _ _ _ us hl => match us, hl with | [_, _], _ => rfl), Df.of l40 c40 k40 (PySem.W.mg_of X G a40) (fun _ _ _ _ _ _ us hl => match us, hl with | [_, _], _ => rfl), Df.of l41 c41 k41 (PySem.W.mg_of X G a41) (fun _ _ _ _ _ _ us hl => match us, hl with | [_, _], _ => rfl), Df.of l42 c42 k42 (PySem.W.mg_of X G a42) (fun _ _ _ _ _ _ us hl => match us, hl with | [_, _, _], _ => rfl), Df.of l43 c43 k43 (PySem.W.mg_of X G a43) (fun _ _ _ _ _ _ us hl => match us, hl with | [_, _, _], _ => rfl), Df.of l44 c44 k44 (PySem.W.mg_of X G a44) (fun _ _ _ _ _ _ us hl => match us, hl with | [_, _], _ => rfl), Df.of l45 c45 k45 (PySem.W.mg_of X G a45) (fun _ _ _ _ _ _ us hl => match us, hl with | [_, _], _ => rfl), Df.of l46 c46 k46 (PySem.W.mg_of X G a46) (fun _ _ _ _ _ _ us hl => match us, hl with | [_], _ => rfl), Df.of l47 c47 k47 (PySem.W.mg_of X G a47) (fun _ _ _ _ _ _ us hl => match us, hl with | [_, _], _ => rfl), Df.of l48 c48 k48 (PySem.W.mg_of X G a48) (fun _ _ _ _ _ _ us hl => match us, hl with | [_, _], _ => rfl), Df.of l49 c49 k49 (PySem.W.mg_of X G a49) (fun _ _ _ _ _ _ us hl => match us, hl with | [_], _ => rfl), Df.of l50 c50 k50 (PySem.W.mg_of X G a50) (fun _ _ _ _ _ _ us hl => match us, hl with | [_], _ => rfl), ⟨PySem.W.mg_none_of X G z0, PySem.W.mg_none_of X G z1, PySem.W.mg_none_of X G z2, PySem.W.mg_none_of X G z3, PySem.W.mg_none_of X G z4, PySem.W.mg_none_of X G z5, PySem.W.mg_none_of X G z6, PySem.W.mg_none_of X G z7, PySem.W.mg_none_of X G z8, PySem.W.mg_none_of X G z9, PySem.W.mg_none_of X G z10, PySem.W.mg_none_of X G z11, PySem.W.mg_none_of X G z12, PySem.W.mg_none_of X G z13, PySem.W.mg_none_of X G z14, ⟨_, PySem.W.mg_of X G cst0, _, _, _, cstl0, rfl, rfl, by show 3 ≤ sizeLine; decide, (.cons ⟨_, rfl⟩ (.cons rfl (.cons rfl .nil)))⟩, ⟨_, PySem.W.mg_of X G cst1⟩, ⟨_, PySem.W.mg_of X G cst2⟩, ⟨_, PySem.W.mg_of X G cst3⟩, ExcF.of (PySem.W.mg_of X G aE0) xE0 kE0 bE0 tE0 iE0, ExcF.of (PySem.W.mg_of X G aE1) xE1 kE1 bE1 tE1 iE1, ExcF.of (PySem.W.mg_of X G aE2) xE2 kE2 bE2 tE2 iE2, ExcF.of (PySem.W.mg_of X G aE3) xE3 kE3 bE3 tE3 iE3, ExcF.of (PySem.W.mg_of X G aE4) xE4 kE4 bE4 tE4 iE4, ExcF.of (PySem.W.mg_of X G aE5) xE5 kE5 bE5 tE5 iE5, ExcF.of (PySem.W.mg_of X G aE6) xE6 kE6 bE6 tE6 iE6, ExcF.of (PySem.W.mg_of X G aE7) xE7 kE7 bE7 tE7 iE7, ExcF.of (PySem.W.mg_of X G aE8) xE8 kE8 bE8 tE8 iE8, ExcF.of (PySem.W.mg_of X G aE9) xE9 kE9 bE9 tE9 iE9, ExcF.of (PySem.W.mg_of X G aE10) xE10 kE10 bE10 tE10 iE10, ExcF.of (PySem.W.mg_of X G aE11) xE11 kE11 bE11 tE11 iE11, ExcF.of (PySem.W.mg_of X G aE12) xE12 kE12 bE12 tE12 iE12, ExcF.of (PySem.W.mg_of X G aE13) xE13 kE13 bE13 tE13 iE13, ExcF.of (PySem.W.mg_of X G aE14) xE14 kE14 bE14 tE14 iE14, ExcF.of (PySem.W.mg_of X G aE15) xE15 kE15 bE15 tE15 iE15, ExcF.of (PySem.W.mg_of X G aE16) xE16 kE16 bE16 tE16 iE16, SubF.of (PySem.W.mg_of X G aE7) (PySem.W.mg_of X G aE0) sE7_0, SubF.of (PySem.W.mg_of X G aE7) (PySem.W.mg_of X G aE1) sE7_1, SubF.of (PySem.W.mg_of X G aE7) (PySem.W.mg_of X G aE2) sE7_2, SubF.of (PySem.W.mg_of X G aE7) (PySem.W.mg_of X G aE3) sE7_3, SubF.of (PySem.W.mg_of X G aE7) (PySem.W.mg_of X G aE4) sE7_4, SubF.of (PySem.W.mg_of X G aE7) (PySem.W.mg_of X G aE5) sE7_5, SubF.of (PySem.W.mg_of X G aE7) (PySem.W.mg_of X G aE6) sE7_6, SubF.of (PySem.W.mg_of X G aE7) (PySem.W.mg_of X G aE7) sE7_7, SubF.of (PySem.W.mg_of X G aE7) (PySem.W.mg_of X G aE8) sE7_8, SubF.of (PySem.W.mg_of X G aE7) (PySem.W.mg_of X G aE9) sE7_9, SubF.of (PySem.W.mg_of X G aE7) (PySem.W.mg_of X G aE10) sE7_10, SubF.of (PySem.W.mg_of X G aE7) (PySem.W.mg_of X G aE11) sE7_11, SubF.of (PySem.W.mg_of X G aE7) (PySem.W.mg_of X G aE12) sE7_12, SubF.of (PySem.W.mg_of X G aE7) (PySem.W.mg_of X G aE13) sE7_13, SubF.of (PySem.W.mg_of X G aE7) (PySem.W.mg_of X G aE14) sE7_14, SubF.of (PySem.W.mg_of X G aE7) (PySem.W.mg_of X G aE15) sE7_15, SubF.of (PySem.W.mg_of X G aE7) (PySem.W.mg_of X G aE16) sE7_16, SubF.of (PySem.W.mg_of X G aE4) (PySem.W.mg_of X G aE0) sE4_0, SubF.of (PySem.W.mg_of X G aE4) (PySem.W.mg_of X G aE1) sE4_1, SubF.of (PySem.W.mg_of X G aE4) (PySem.W.mg_of X G aE2) sE4_2, SubF.of (PySem.W.mg_of X G aE4) (PySem.W.mg_of X G aE3) sE4_3, SubF.of (PySem.W.mg_of X G aE4) (PySem.W.mg_of X G aE4) sE4_4, SubF.of (PySem.W.mg_of X G aE4) (PySem.W.mg_of X G aE5) sE4_5, SubF.of (PySem.W.mg_of X G aE4) (PySem.W.mg_of X G aE6) sE4_6, SubF.of (PySem.W.mg_of X G aE4) (PySem.W.mg_of X G aE7) sE4_7, SubF.of (PySem.W.mg_of X G aE4) (PySem.W.mg_of X G aE8) sE4_8, SubF.of (PySem.W.mg_of X G aE4) (PySem.W.mg_of X G aE9) sE4_9, SubF.of (PySem.W.mg_of X G aE4) (PySem.W.mg_of X G aE10) sE4_10, SubF.of (PySem.W.mg_of X G aE4) (PySem.W.mg_of X G aE11) sE4_11, SubF.of (PySem.W.mg_of X G aE4) (PySem.W.mg_of X G aE12) sE4_12, SubF.of (PySem.W.mg_of X G aE4) (PySem.W.mg_of X G aE13) sE4_13, SubF.of (PySem.W.mg_of X G aE4) (PySem.W.mg_of X G aE14) sE4_14, SubF.of (PySem.W.mg_of X G aE4) (PySem.W.mg_of X G aE15) sE4_15, SubF.of (PySem.W.mg_of X G aE4) (PySem.W.mg_of X G aE16) sE4_16, SubF.of (PySem.W.mg_of X G aE2) (PySem.W.mg_of X G aE0) sE2_0, SubF.of (PySem.W.mg_of X G aE2) (PySem.W.mg_of X G aE1) sE2_1, SubF.of (PySem.W.mg_of X G aE2) (PySem.W.mg_of X G aE2) sE2_2, SubF.of (PySem.W.mg_of X G aE2) (PySem.W.mg_of X G aE3) sE2_3, SubF.of (PySem.W.mg_of X G aE2) (PySem.W.mg_of X G aE4) sE2_4, SubF.of (PySem.W.mg_of X G aE2) (PySem.W.mg_of X G aE5) sE2_5, SubF.of (PySem.W.mg_of X G aE2) (PySem.W.mg_of X G aE6) sE2_6, SubF.of (PySem.W.mg_of X G aE2) (PySem.W.mg_of X G aE7) sE2_7, SubF.of (PySem.W.mg_of X G aE2) (PySem.W.mg_of X G aE8) sE2_8, SubF.of (PySem.W.mg_of X G aE2) (PySem.W.mg_of X G aE9) sE2_9, SubF.of (PySem.W.mg_of X G aE2) (PySem.W.mg_of X G aE10) sE2_10, SubF.of (PySem.W.mg_of X G aE2) (PySem.W.mg_of X G aE11) sE2_11, SubF.of (PySem.W.mg_of X G aE2) (PySem.W.mg_of X G aE12) sE2_12, SubF.of (PySem.W.mg_of X G aE2) (PySem.W.mg_of X G aE13) sE2_13, SubF.of (PySem.W.mg_of X G aE2) (PySem.W.mg_of X G aE14) sE2_14, SubF.of (PySem.W.mg_of X G aE2) (PySem.W.mg_of X G aE15) sE2_15, SubF.of (PySem.W.mg_of X G aE2) (PySem.W.mg_of X G aE16) sE2_16, SubF.of (PySem.W.mg_of X G aE1) (PySem.W.mg_of X G aE0) sE1_0, SubF.of (PySem.W.mg_of X G aE1) (PySem.W.mg_of X G aE1) sE1_1, SubF.of (PySem.W.mg_of X G aE1) (PySem.W.mg_of X G aE2) sE1_2, SubF.of (PySem.W.mg_of X G aE1) (PySem.W.mg_of X G aE3) sE1_3, SubF.of (PySem.W.mg_of X G aE1) (PySem.W.mg_of X G aE4) sE1_4, SubF.of (PySem.W.mg_of X G aE1) (PySem.W.mg_of X G aE5) sE1_5, SubF.of (PySem.W.mg_of X G aE1) (PySem.W.mg_of X G aE6) sE1_6, SubF.of (PySem.W.mg_of X G aE1) (PySem.W.mg_of X G aE7) sE1_7, SubF.of (PySem.W.mg_of X G aE1) (PySem.W.mg_of X G aE8) sE1_8, SubF.of (PySem.W.mg_of X G aE1) (PySem.W.mg_of X G aE9) sE1_9, SubF.of (PySem.W.mg_of X G aE1) (PySem.W.mg_of X G aE10) sE1_10, SubF.of (PySem.W.mg_of X G aE1) (PySem.W.mg_of X G aE11) sE1_11, SubF.of (PySem.W.mg_of X G aE1) (PySem.W.mg_of X G aE12) sE1_12, SubF.of (PySem.W.mg_of X G aE1) (PySem.W.mg_of X G aE13) sE1_13, SubF.of (PySem.W.mg_of X G aE1) (PySem.W.mg_of X G aE14) sE1_14, SubF.of (PySem.W.mg_of X G aE1) (PySem.W.mg_of X G aE15) sE1_15, SubF.of (PySem.W.mg_of X G aE1) (PySem.W.mg_of X G aE16) sE1_16, SubF.of (PySem.W.mg_of X G aE15) (PySem.W.mg_of X G aE0) sE15_0, SubF.of (PySem.W.mg_of X G aE15) (PySem.W.mg_of X G aE1) sE15_1, SubF.of (PySem.W.mg_of X G aE15) (PySem.W.mg_of X G aE2) sE15_2, SubF.of (PySem.W.mg_of X G aE15) (PySem.W.mg_of X G aE3) sE15_3, SubF.of (PySem.W.mg_of X G aE15) (PySem.W.mg_of X G aE4) sE15_4, SubF.of (PySem.W.mg_of X G aE15) (PySem.W.mg_of X G aE5) sE15_5, SubF.of (PySem.W.mg_of X G aE15) (PySem.W.mg_of X G aE6) sE15_6, SubF.of (PySem.W.mg_of X G aE15) (PySem.W.mg_of X G aE7) sE15_7, SubF.of (PySem.W.mg_of X G aE15) (PySem.W.mg_of X G aE8) sE15_8, SubF.of (PySem.W.mg_of X G aE15) (PySem.W.mg_of X G aE9) sE15_9, SubF.of (PySem.W.mg_of X G aE15) (PySem.W.mg_of X G aE10) sE15_10, SubF.of (PySem.W.mg_of X G aE15) (PySem.W.mg_of X G aE11) sE15_11, SubF.of (PySem.W.mg_of X G aE15) (PySem.W.mg_of X G aE12) sE15_12, SubF.of (PySem.W.mg_of X G aE15) (PySem.W.mg_of X G aE13) sE15_13, SubF.of (PySem.W.mg_of X G aE15) (PySem.W.mg_of X G aE14) sE15_14, SubF.of (PySem.W.mg_of X G aE15) (PySem.W.mg_of X G aE15) sE15_15, SubF.of (PySem.W.mg_of X G aE15) (PySem.W.mg_of X G aE16) sE15_16, ExcI.of (PySem.W.mg_of X G aE7) ⟨ga7, gt7, bE7, hi7, fc7, spG, tkG, mo7⟩ vE7, ExcI.of (PySem.W.mg_of X G aE4) ⟨ga4, gt4, bE4, hi4, fc4, spG, tkG, mo4⟩ vE4, ExcI.of (PySem.W.mg_of X G aE2) ⟨ga2, gt2, bE2, hi2, fc2, spG, tkG, mo2⟩ vE2, ExcI.of (PySem.W.mg_of X G aE1) ⟨ga1, gt1, bE1, hi1, fc1, spG, tkG, mo1⟩ vE1, ExcI.of (PySem.W.mg_of X G aE15) ⟨ga15, gt15, bE15, hi15, fc15, spG, tkG, mo15⟩ vE15⟩⟩

theorem law_fd {P : Program} {w : World} {K : PySem.W.Frag} {mg : Str → Option Value} {fa : Addr} (A : AllD K mg) (hfa : mg "law" = some (.ref fa)) :
    ∃ fd : FuncData, (∀ (s : Shared) (v : Value), BindsTo s fd ⟨[v], []⟩ [("_law_script", v)]) ∧ ∀ base : Heap, K.In base → base.Ns mainGlobals mg → FnG P w K mg base CX0 71 fa fd ["_law_script"] (spLaw K) := by
  obtain ⟨f, fd, F, m, b⟩ := A.d_law.ex
  have e := hfa.symm.trans m
  cases e
  refine ⟨fd, fun s v => by obtain ⟨oc, od, kV, doc, pm, an, cdv, ct, osl, rfl, lk, hcd⟩ := F.ex; exact .of_eq rfl, fun base _ _ => ?_⟩
  have B := A.bl
  have D_is_whole : Dn P w K mg base 1 "is_whole" ["thing"] (spWhT K) := k_is_whole B A.d_is_whole 
  have D__law_is_whole : Dn P w K mg base 1 "_law_is_whole" ["_law_thing"] (spWhT2 K) := k__law_is_whole B A.d__law_is_whole 
  have D_is_row_of : Dn P w K mg base 1 "is_row_of" ["thing", "many"] (spRowT K) := k_is_row_of B A.d_is_row_of 
  have D_is_end : Dn P w K mg base 2 "is_end" ["thing"] (spEndT K) := k_is_end B A.d_is_end D_is_whole
  have D_is_deed : Dn P w K mg base 3 "is_deed" ["thing"] (spDeedT K) := k_is_deed B A.d_is_deed D_is_whole D_is_row_of D_is_end
  have D_is_board : Dn P w K mg base 2 "is_board" ["thing"] (spBdT K) := k_is_board B A.d_is_board D_is_whole
  have D_want_board : Dx P w K mg base 3 "want_board" ["board"] (spWBdT K (cAt mg "NoBoard")) := k_want_board B A.d_want_board D_is_board
  have D_is_ask : Dn P w K mg base 4 "is_ask" ["board", "thing"] (spAkT K) := k_is_ask B A.d_is_ask D_is_whole D_is_deed
  have D_are_asks : Dx P w K mg base 5 "are_asks" ["board", "thing"] (spAsT K (cAt mg "NoBoard")) := k_are_asks B A.d_are_asks D_want_board D_is_ask
  have D_is_within : Dn P w K mg base 2 "is_within" ["thing", "least", "most"] (spInT K) := k_is_within B A.d_is_within D_is_whole
  have D_want_whole : Dx P w K mg base 2 "want_whole" ["thing"] (spWW24 K (cAt mg "NoNumber")) := k_want_whole B A.d_want_whole D_is_whole
  have D_want_within : Dx P w K mg base 3 "want_within" ["thing", "least", "most"] (spWI24 K (cAt mg "NoNumber")) := k_want_within B A.d_want_within D_is_within
  have D_want_many : Dx P w K mg base 4 "want_many" ["many"] (spWM24 K (cAt mg "NoNumber")) := k_want_many B A.d_want_many D_want_within
  have D_is_tree : Dx P w K mg base 5 "is_tree" ["thing", "many"] (spIsT24 K (cAt mg "NoNumber")) := k_is_tree B A.d_is_tree D_want_many D_is_whole
  have D_want_tree : Dx P w K mg base 6 "want_tree" ["tree", "many"] (spWT24 K (cAt mg "NoTree")) := k_want_tree B A.d_want_tree D_is_tree
  have D_want_deeds : Dx P w K mg base 4 "want_deeds" ["deeds"] (spWD24 K (cAt mg "NoDeed")) := k_want_deeds B A.d_want_deeds D_is_deed
  have D_put_through : Dn P w K mg base 1 "put_through" ["deed", "value"] (spPut K) := k_put_through B A.d_put_through 
  have D_whole_deed : Dn P w K mg base 1 "whole_deed" ["add", "low", "high"] spWholeDeed := k_whole_deed B A.d_whole_deed 
  have D_one_behind : Dn P w K mg base 2 "one_behind" ["one", "other"] (spBehind K) := k_one_behind B A.d_one_behind D_put_through D_whole_deed
  have D_folded_of : Dn P w K mg base 43 "folded_of" ["deeds", "tree"] ((spFo24 K) 40) := k_folded_of B A.d_folded_of D_one_behind
  have D_folded : Dx P w K mg base 45 "folded" ["deeds", "tree"] (spFold24 K (cAt mg "NoDeed") (cAt mg "NoTree")) := k_folded B A.d_folded D_want_deeds D_want_tree D_folded_of
  have D_shared_of : Dn P w K mg base 43 "shared_of" ["deeds", "tree", "value"] ((spSh24 K) 40) := k_shared_of B A.d_shared_of D_put_through D_one_behind
  have D_shared_out : Dx P w K mg base 46 "shared_out" ["deeds", "tree", "value"] (spShare24 K (cAt mg "NoNumber") (cAt mg "NoDeed") (cAt mg "NoTree")) := k_shared_out B A.d_shared_out D_want_whole D_want_deeds D_want_tree D_shared_of
  have D_halved_from : Dn P w K mg base 41 "halved_from" ["first", "many"] (spHf 40) := k_halved_from B A.d_halved_from 
  have D_halved : Dx P w K mg base 42 "halved" ["many"] (spHal24 K (cAt mg "NoNumber")) := k_halved B A.d_halved D_want_many D_halved_from
  have D_chained : Dx P w K mg base 5 "chained" ["many"] (spHal24 K (cAt mg "NoNumber")) := k_chained B A.d_chained D_want_many
  have D_want_asks : Dx P w K mg base 6 "want_asks" ["board", "asks"] (spWA24 K (cAt mg "NoBoard") (cAt mg "NoAsk")) := k_want_asks B A.d_want_asks D_are_asks
  have D_played : Dx P w K mg base 7 "played" ["board", "asks"] (spPl24 K (cAt mg "NoBoard") (cAt mg "NoAsk")) := k_played B A.d_played D_want_asks D_put_through
  have D_all_of : Dx P w K mg base 7 "all_of" ["board", "asks"] (spPl24 K (cAt mg "NoBoard") (cAt mg "NoAsk")) := k_all_of B A.d_all_of D_want_asks D_one_behind
  have D_ahead_of : Dx P w K mg base 7 "ahead_of" ["board", "asks"] (spPl24 K (cAt mg "NoBoard") (cAt mg "NoAsk")) := k_ahead_of B A.d_ahead_of D_want_asks D_one_behind
  have D__law_pot : Dn P w K mg base 1 "_law_pot" ["_law_script", "_law_k"] (spPot2 K) := k__law_pot B A.d__law_pot 
  have D__law_draw : Dn P w K mg base 1 "_law_draw" ["_law_pot_here", "_law_many"] spTake := k__law_draw B A.d__law_draw 
  have D__law_number : Dn P w K mg base 2 "_law_number" ["_law_pot_here"] spNumber := k__law_number B A.d__law_number D__law_draw
  have D__law_deed : Dn P w K mg base 3 "_law_deed" ["_law_pot_here"] spDeed := k__law_deed B A.d__law_deed D__law_draw D__law_number
  have D__law_board : Dn P w K mg base 3 "_law_board" ["_law_pot_here"] spBoard := k__law_board B A.d__law_board D__law_draw D__law_number
  have D__law_asks : Dn P w K mg base 4 "_law_asks" ["_law_pot_here", "_law_board_here", "_law_most"] spAsks := k__law_asks B A.d__law_asks D__law_draw D__law_deed
  have D__law_other : Dn P w K mg base 3 "_law_other" ["_law_pot_here", "_law_thing"] (spOther K) := k__law_other B A.d__law_other D__law_draw D__law_is_whole
  have D__law_bent : Dn P w K mg base 45 "_law_bent" ["_law_pot_here", "_law_thing", "_law_deep"] ((spBent K) 41) := k__law_bent B A.d__law_bent D__law_draw D__law_other
  have D__law_is_deed : Dn P w K mg base 3 "_law_is_deed" ["_law_thing"] (spLDeedT K) := k__law_is_deed B A.d__law_is_deed D__law_is_whole
  have D__law_is_board : Dn P w K mg base 2 "_law_is_board" ["_law_thing"] (spLBdT K) := k__law_is_board B A.d__law_is_board D__law_is_whole
  have D__law_is_ask : Dn P w K mg base 4 "_law_is_ask" ["_law_board_here", "_law_thing"] (spLAkT K) := k__law_is_ask B A.d__law_is_ask D__law_is_whole D__law_is_deed
  have D__law_are_asks : Dn P w K mg base 5 "_law_are_asks" ["_law_board_here", "_law_thing"] (spLAsT K) := k__law_are_asks B A.d__law_are_asks D__law_is_ask
  have D__law_leaves : Dn P w K mg base 62 "_law_leaves" ["_law_thing", "_law_deep"] ((spLeaves K) 60) := k__law_leaves B A.d__law_leaves 
  have D__law_is_tree : Dn P w K mg base 63 "_law_is_tree" ["_law_thing", "_law_many"] (spLIsT K) := k__law_is_tree B A.d__law_is_tree D__law_leaves D__law_is_whole
  have D__law_tree : Dn P w K mg base 42 "_law_tree" ["_law_pot_here", "_law_first", "_law_many"] (spLT24 40) := k__law_tree B A.d__law_tree D__law_draw
  have D__law_are_deeds : Dn P w K mg base 4 "_law_are_deeds" ["_law_thing"] (spLDs K) := k__law_are_deeds B A.d__law_are_deeds D__law_is_deed
  have D__law_due : Dn P w K mg base 64 "_law_due" ["_law_choice", "_law_handed"] (spDue24 K) := k__law_due B A.d__law_due D__law_is_board D__law_are_asks D__law_is_whole D__law_are_deeds D__law_is_tree
  have D__law_word : Dn P w K mg base 47 "_law_word" ["_law_choice", "_law_handed"] (spWord24 K) := k__law_word B A.d__law_word D_played D_all_of D_ahead_of D_folded D_shared_out D_halved D_chained D_is_tree
  have D__law_right : Dn P w K mg base 66 "_law_right" ["_law_pot_here"] (spRight24 K) := k__law_right B A.d__law_right D__law_draw D__law_board D__law_asks D__law_deed D__law_tree D__law_number D__law_bent D__law_word D__law_due
  exact k_law B F D__law_pot D__law_right

theorem walk {l : PySem.W.OpenLaw} {q : Program} {loose : List Str} {XP : (Str → Option Value) → Heap → Prop} {YP : World → Heap → Prop} {d : DefRec} {K : Params → PySem.W.Frag} (hn : l.most = some 63) (hdf : d.params.defaults = [])
    (hY : ∀ (w : World) (h : Heap), YP w h → (K w.params).In h) (hname : d.name = "law") (F : ∀ (w : World) (mg : Str → Option Value) (h : Heap), (K w.params).In h → h.Ns mainGlobals mg → AllD (K w.params) mg) :
    PySem.W.WalkO q loose XP YP l.row.toRowW d [] (fun f vs => PySem.call f vs) :=
  walk_G (n := 63) (k := 71) (x := "_law_script") (sp := spLaw) hn (by decide) hdf ⟨rfl, by decide, by decide⟩ hY
    (fun w mg fa h KX G hfa => law_fd (F w mg h KX G) (by rw [hname] at hfa; exact hfa)) fun _ _ a ns hl hS => ⟨a, ns, rfl, hS, hl, fun _ => rfl⟩
end Toy
open PySem PySem.W PyProof.Rows
set_option maxRecDepth 100000 in
set_option maxHeartbeats 0 in
theorem PySem.Challenge.cw_joinedasks_k24_asks_and_trees_refused_holds : PySem.Challenge.rw_joinedasks_k24_asks_and_trees_refused.Holds := by
  w_on; o_law; k_head; (case hw => w_witness2)
  k_fill
  refine Toy.walk (l := PySem.Challenge.rw_joinedasks_k24_asks_and_trees_refused) rfl rfl (fun w h Y => PySem.W.kIn_of Y) rfl ?F
  case F =>
    intro w mg h KX G
    refine' Toy.all_mk (w := w) KX G ?aE0 ?xE0 ?kE0 ?bE0 ?tE0 ?iE0 ?aE1 ?xE1 ?kE1 ?bE1 ?tE1 ?iE1 ?aE2 ?xE2 ?kE2 ?bE2 ?tE2 ?iE2 ?aE3 ?xE3 ?kE3 ?bE3 ?tE3 ?iE3 ?aE4 ?xE4 ?kE4 ?bE4 ?tE4 ?iE4 ?aE5 ?xE5 ?kE5 ?bE5 ?tE5 ?iE5 ?aE6 ?xE6 ?kE6 ?bE6 ?tE6 ?iE6 ?aE7 ?xE7 ?kE7 ?bE7 ?tE7 ?iE7 ?aE8 ?xE8 ?kE8 ?bE8 ?tE8 ?iE8 ?aE9 ?xE9 ?kE9 ?bE9 ?tE9 ?iE9 ?aE10 ?xE10 ?kE10 ?bE10 ?tE10 ?iE10 ?aE11 ?xE11 ?kE11 ?bE11 ?tE11 ?iE11 ?aE12 ?xE12 ?kE12 ?bE12 ?tE12 ?iE12 ?aE13 ?xE13 ?kE13 ?bE13 ?tE13 ?iE13 ?aE14 ?xE14 ?kE14 ?bE14 ?tE14 ?iE14 ?aE15 ?xE15 ?kE15 ?bE15 ?tE15 ?iE15 ?aE16 ?xE16 ?kE16 ?bE16 ?tE16 ?iE16 ?sE7_0 ?sE7_1 ?sE7_2 ?sE7_3 ?sE7_4 ?sE7_5 ?sE7_6 ?sE7_7 ?sE7_8 ?sE7_9 ?sE7_10 ?sE7_11 ?sE7_12 ?sE7_13 ?sE7_14 ?sE7_15 ?sE7_16 ?sE4_0 ?sE4_1 ?sE4_2 ?sE4_3 ?sE4_4 ?sE4_5 ?sE4_6 ?sE4_7 ?sE4_8 ?sE4_9 ?sE4_10 ?sE4_11 ?sE4_12 ?sE4_13 ?sE4_14 ?sE4_15 ?sE4_16 ?sE2_0 ?sE2_1 ?sE2_2 ?sE2_3 ?sE2_4 ?sE2_5 ?sE2_6 ?sE2_7 ?sE2_8 ?sE2_9 ?sE2_10 ?sE2_11 ?sE2_12 ?sE2_13 ?sE2_14 ?sE2_15 ?sE2_16 ?sE1_0 ?sE1_1 ?sE1_2 ?sE1_3 ?sE1_4 ?sE1_5 ?sE1_6 ?sE1_7 ?sE1_8 ?sE1_9 ?sE1_10 ?sE1_11 ?sE1_12 ?sE1_13 ?sE1_14 ?sE1_15 ?sE1_16 ?sE15_0 ?sE15_1 ?sE15_2 ?sE15_3 ?sE15_4 ?sE15_5 ?sE15_6 ?sE15_7 ?sE15_8 ?sE15_9 ?sE15_10 ?sE15_11 ?sE15_12 ?sE15_13 ?sE15_14 ?sE15_15 ?sE15_16 ?spG ?tkG ?ga7 ?gt7 ?hi7 ?fc7 ?mo7 ?vE7 ?ga4 ?gt4 ?hi4 ?fc4 ?mo4 ?vE4 ?ga2 ?gt2 ?hi2 ?fc2 ?mo2 ?vE2 ?ga1 ?gt1 ?hi1 ?fc1 ?mo1 ?vE1 ?ga15 ?gt15 ?hi15 ?fc15 ?mo15 ?vE15 ?a1 ?l1 ?c1 ?k1 ?a2 ?l2 ?c2 ?k2 ?a3 ?l3 ?c3 ?k3 ?a4 ?l4 ?c4 ?k4 ?a5 ?l5 ?c5 ?k5 ?a6 ?l6 ?c6 ?k6 ?a7 ?l7 ?c7 ?k7 ?a8 ?l8 ?c8 ?k8 ?a9 ?l9 ?c9 ?k9 ?a10 ?l10 ?c10 ?k10 ?a11 ?l11 ?c11 ?k11 ?a12 ?l12 ?c12 ?k12 ?a13 ?l13 ?c13 ?k13 ?a14 ?l14 ?c14 ?k14 ?a15 ?l15 ?c15 ?k15 ?a16 ?l16 ?c16 ?k16 ?a17 ?l17 ?c17 ?k17 ?a18 ?l18 ?c18 ?k18 ?a19 ?l19 ?c19 ?k19 ?a20 ?l20 ?c20 ?k20 ?a21 ?l21 ?c21 ?k21 ?a22 ?l22 ?c22 ?k22 ?a23 ?l23 ?c23 ?k23 ?a24 ?l24 ?c24 ?k24 ?a25 ?l25 ?c25 ?k25 ?a26 ?l26 ?c26 ?k26 ?a27 ?l27 ?c27 ?k27 ?a28 ?l28 ?c28 ?k28 ?a29 ?l29 ?c29 ?k29 ?a30 ?l30 ?c30 ?k30 ?a31 ?l31 ?c31 ?k31 ?a32 ?l32 ?c32 ?k32 ?a33 ?l33 ?c33 ?k33 ?a34 ?l34 ?c34 ?k34 ?a35 ?l35 ?c35 ?k35 ?a36 ?l36 ?c36 ?k36 ?a37 ?l37 ?c37 ?k37 ?a38 ?l38 ?c38 ?k38 ?a39 ?l39 ?c39 ?k39 ?a40 ?l40 ?c40 ?k40 ?a41 ?l41 ?c41 ?k41 ?a42 ?l42 ?c42 ?k42 ?a43 ?l43 ?c43 ?k43 ?a44 ?l44 ?c44 ?k44 ?a45 ?l45 ?c45 ?k45 ?a46 ?l46 ?c46 ?k46 ?a47 ?l47 ?c47 ?k47 ?a48 ?l48 ?c48 ?k48 ?a49 ?l49 ?c49 ?k49 ?a50 ?l50 ?c50 ?k50 ?z0 ?z1 ?z2 ?z3 ?z4 ?z5 ?z6 ?z7 ?z8 ?z9 ?z10 ?z11 ?z12 ?z13 ?z14 ?cst0 ?cstl0 ?cst1 ?cst2 ?cst3
    (case aE0 => k_is)
    (case xE0 => k_exc)
    (case kE0 => k_is)
    (case bE0 => k_is)
    (case tE0 => k_is)
    (case iE0 => k_is)
    (case aE1 => k_is)
    (case xE1 => k_exc)
    (case kE1 => k_is)
    (case bE1 => k_is)
    (case tE1 => k_is)
    (case iE1 => k_is)
    (case aE2 => k_is)
    (case xE2 => k_exc)
    (case kE2 => k_is)
    (case bE2 => k_is)
    (case tE2 => k_is)
    (case iE2 => k_is)
    (case aE3 => k_is)
    (case xE3 => k_exc)
    (case kE3 => k_is)
    (case bE3 => k_is)
    (case tE3 => k_is)
    (case iE3 => k_is)
    (case aE4 => k_is)
    (case xE4 => k_exc)
    (case kE4 => k_is)
    (case bE4 => k_is)
    (case tE4 => k_is)
    (case iE4 => k_is)
    (case aE5 => k_is)
    (case xE5 => k_exc)
    (case kE5 => k_is)
    (case bE5 => k_is)
    (case tE5 => k_is)
    (case iE5 => k_is)
    (case aE6 => k_is)
    (case xE6 => k_exc)
    (case kE6 => k_is)
    (case bE6 => k_is)
    (case tE6 => k_is)
    (case iE6 => k_is)
    (case aE7 => k_is)
    (case xE7 => k_exc)
    (case kE7 => k_is)
    (case bE7 => k_is)
    (case tE7 => k_is)
    (case iE7 => k_is)
    (case aE8 => k_is)
    (case xE8 => k_exc)
    (case kE8 => k_is)
    (case bE8 => k_is)
    (case tE8 => k_is)
    (case iE8 => k_is)
    (case aE9 => k_is)
    (case xE9 => k_exc)
    (case kE9 => k_is)
    (case bE9 => k_is)
    (case tE9 => k_is)
    (case iE9 => k_is)
    (case aE10 => k_is)
    (case xE10 => k_exc)
    (case kE10 => k_is)
    (case bE10 => k_is)
    (case tE10 => k_is)
    (case iE10 => k_is)
    (case aE11 => k_is)
    (case xE11 => k_exc)
    (case kE11 => k_is)
    (case bE11 => k_is)
    (case tE11 => k_is)
    (case iE11 => k_is)
    (case aE12 => k_is)
    (case xE12 => k_exc)
    (case kE12 => k_is)
    (case bE12 => k_is)
    (case tE12 => k_is)
    (case iE12 => k_is)
    (case aE13 => k_is)
    (case xE13 => k_exc)
    (case kE13 => k_is)
    (case bE13 => k_is)
    (case tE13 => k_is)
    (case iE13 => k_is)
    (case aE14 => k_is)
    (case xE14 => k_exc)
    (case kE14 => k_is)
    (case bE14 => k_is)
    (case tE14 => k_is)
    (case iE14 => k_is)
    (case aE15 => k_is)
    (case xE15 => k_exc)
    (case kE15 => k_is)
    (case bE15 => k_is)
    (case tE15 => k_is)
    (case iE15 => k_is)
    (case aE16 => k_is)
    (case xE16 => k_exc)
    (case kE16 => k_is)
    (case bE16 => k_is)
    (case tE16 => k_is)
    (case iE16 => k_is)
    (case sE7_0 => first | rfl | k_is)
    (case sE7_1 => first | rfl | k_is)
    (case sE7_2 => first | rfl | k_is)
    (case sE7_3 => first | rfl | k_is)
    (case sE7_4 => first | rfl | k_is)
    (case sE7_5 => first | rfl | k_is)
    (case sE7_6 => first | rfl | k_is)
    (case sE7_7 => first | rfl | k_is)
    (case sE7_8 => first | rfl | k_is)
    (case sE7_9 => first | rfl | k_is)
    (case sE7_10 => first | rfl | k_is)
    (case sE7_11 => first | rfl | k_is)
    (case sE7_12 => first | rfl | k_is)
    (case sE7_13 => first | rfl | k_is)
    (case sE7_14 => first | rfl | k_is)
    (case sE7_15 => first | rfl | k_is)
    (case sE7_16 => first | rfl | k_is)
    (case sE4_0 => first | rfl | k_is)
    (case sE4_1 => first | rfl | k_is)
    (case sE4_2 => first | rfl | k_is)
    (case sE4_3 => first | rfl | k_is)
    (case sE4_4 => first | rfl | k_is)
    (case sE4_5 => first | rfl | k_is)
    (case sE4_6 => first | rfl | k_is)
    (case sE4_7 => first | rfl | k_is)
    (case sE4_8 => first | rfl | k_is)
    (case sE4_9 => first | rfl | k_is)
    (case sE4_10 => first | rfl | k_is)
    (case sE4_11 => first | rfl | k_is)
    (case sE4_12 => first | rfl | k_is)
    (case sE4_13 => first | rfl | k_is)
    (case sE4_14 => first | rfl | k_is)
    (case sE4_15 => first | rfl | k_is)
    (case sE4_16 => first | rfl | k_is)
    (case sE2_0 => first | rfl | k_is)
    (case sE2_1 => first | rfl | k_is)
    (case sE2_2 => first | rfl | k_is)
    (case sE2_3 => first | rfl | k_is)
    (case sE2_4 => first | rfl | k_is)
    (case sE2_5 => first | rfl | k_is)
    (case sE2_6 => first | rfl | k_is)
    (case sE2_7 => first | rfl | k_is)
    (case sE2_8 => first | rfl | k_is)
    (case sE2_9 => first | rfl | k_is)
    (case sE2_10 => first | rfl | k_is)
    (case sE2_11 => first | rfl | k_is)
    (case sE2_12 => first | rfl | k_is)
    (case sE2_13 => first | rfl | k_is)
    (case sE2_14 => first | rfl | k_is)
    (case sE2_15 => first | rfl | k_is)
    (case sE2_16 => first | rfl | k_is)
    (case sE1_0 => first | rfl | k_is)
    (case sE1_1 => first | rfl | k_is)
    (case sE1_2 => first | rfl | k_is)
    (case sE1_3 => first | rfl | k_is)
    (case sE1_4 => first | rfl | k_is)
    (case sE1_5 => first | rfl | k_is)
    (case sE1_6 => first | rfl | k_is)
    (case sE1_7 => first | rfl | k_is)
    (case sE1_8 => first | rfl | k_is)
    (case sE1_9 => first | rfl | k_is)
    (case sE1_10 => first | rfl | k_is)
    (case sE1_11 => first | rfl | k_is)
    (case sE1_12 => first | rfl | k_is)
    (case sE1_13 => first | rfl | k_is)
    (case sE1_14 => first | rfl | k_is)
    (case sE1_15 => first | rfl | k_is)
    (case sE1_16 => first | rfl | k_is)
    (case sE15_0 => first | rfl | k_is)
    (case sE15_1 => first | rfl | k_is)
    (case sE15_2 => first | rfl | k_is)
    (case sE15_3 => first | rfl | k_is)
    (case sE15_4 => first | rfl | k_is)
    (case sE15_5 => first | rfl | k_is)
    (case sE15_6 => first | rfl | k_is)
    (case sE15_7 => first | rfl | k_is)
    (case sE15_8 => first | rfl | k_is)
    (case sE15_9 => first | rfl | k_is)
    (case sE15_10 => first | rfl | k_is)
    (case sE15_11 => first | rfl | k_is)
    (case sE15_12 => first | rfl | k_is)
    (case sE15_13 => first | rfl | k_is)
    (case sE15_14 => first | rfl | k_is)
    (case sE15_15 => first | rfl | k_is)
    (case sE15_16 => first | rfl | k_is)
    (case spG => k_is)
    (case tkG => k_is)
    (case ga7 => k_is)
    (case gt7 => k_is)
    (case hi7 => k_is)
    (case fc7 => k_is)
    (case mo7 => k_is)
    (case vE7 => k_is)
    (case ga4 => k_is)
    (case gt4 => k_is)
    (case hi4 => k_is)
    (case fc4 => k_is)
    (case mo4 => k_is)
    (case vE4 => k_is)
    (case ga2 => k_is)
    (case gt2 => k_is)
    (case hi2 => k_is)
    (case fc2 => k_is)
    (case mo2 => k_is)
    (case vE2 => k_is)
    (case ga1 => k_is)
    (case gt1 => k_is)
    (case hi1 => k_is)
    (case fc1 => k_is)
    (case mo1 => k_is)
    (case vE1 => k_is)
    (case ga15 => k_is)
    (case gt15 => k_is)
    (case hi15 => k_is)
    (case fc15 => k_is)
    (case mo15 => k_is)
    (case vE15 => k_is)
    (case a1 => k_is)
    (case l1 => k_is)
    (case c1 => k_is)
    (case k1 => k_is)
    (case a2 => k_is)
    (case l2 => k_is)
    (case c2 => k_is)
    (case k2 => k_is)
    (case a3 => k_is)
    (case l3 => k_is)
    (case c3 => k_is)
    (case k3 => k_is)
    (case a4 => k_is)
    (case l4 => k_is)
    (case c4 => k_is)
    (case k4 => k_is)
    (case a5 => k_is)
    (case l5 => k_is)
    (case c5 => k_is)
    (case k5 => k_is)
    (case a6 => k_is)
    (case l6 => k_is)
    (case c6 => k_is)
    (case k6 => k_is)
    (case a7 => k_is)
    (case l7 => k_is)
    (case c7 => k_is)
    (case k7 => k_is)
    (case a8 => k_is)
    (case l8 => k_is)
    (case c8 => k_is)
    (case k8 => k_is)
    (case a9 => k_is)
    (case l9 => k_is)
    (case c9 => k_is)
    (case k9 => k_is)
    (case a10 => k_is)
    (case l10 => k_is)
    (case c10 => k_is)
    (case k10 => k_is)
    (case a11 => k_is)
    (case l11 => k_is)
    (case c11 => k_is)
    (case k11 => k_is)
    (case a12 => k_is)
    (case l12 => k_is)
    (case c12 => k_is)
    (case k12 => k_is)
    (case a13 => k_is)
    (case l13 => k_is)
    (case c13 => k_is)
    (case k13 => k_is)
    (case a14 => k_is)
    (case l14 => k_is)
    (case c14 => k_is)
    (case k14 => k_is)
    (case a15 => k_is)
    (case l15 => k_is)
    (case c15 => k_is)
    (case k15 => k_is)
    (case a16 => k_is)
    (case l16 => k_is)
    (case c16 => k_is)
    (case k16 => k_is)
    (case a17 => k_is)
    (case l17 => k_is)
    (case c17 => k_is)
    (case k17 => k_is)
    (case a18 => k_is)
    (case l18 => k_is)
    (case c18 => k_is)
    (case k18 => k_is)
    (case a19 => k_is)
    (case l19 => k_is)
    (case c19 => k_is)
    (case k19 => k_is)
    (case a20 => k_is)
    (case l20 => k_is)
    (case c20 => k_is)
    (case k20 => k_is)
    (case a21 => k_is)
    (case l21 => k_is)
    (case c21 => k_is)
    (case k21 => k_is)
    (case a22 => k_is)
    (case l22 => k_is)
    (case c22 => k_is)
    (case k22 => k_is)
    (case a23 => k_is)
    (case l23 => k_is)
    (case c23 => k_is)
    (case k23 => k_is)
    (case a24 => k_is)
    (case l24 => k_is)
    (case c24 => k_is)
    (case k24 => k_is)
    (case a25 => k_is)
    (case l25 => k_is)
    (case c25 => k_is)
    (case k25 => k_is)
    (case a26 => k_is)
    (case l26 => k_is)
    (case c26 => k_is)
    (case k26 => k_is)
    (case a27 => k_is)
    (case l27 => k_is)
    (case c27 => k_is)
    (case k27 => k_is)
    (case a28 => k_is)
    (case l28 => k_is)
    (case c28 => k_is)
    (case k28 => k_is)
    (case a29 => k_is)
    (case l29 => k_is)
    (case c29 => k_is)
    (case k29 => k_is)
    (case a30 => k_is)
    (case l30 => k_is)
    (case c30 => k_is)
    (case k30 => k_is)
    (case a31 => k_is)
    (case l31 => k_is)
    (case c31 => k_is)
    (case k31 => k_is)
    (case a32 => k_is)
    (case l32 => k_is)
    (case c32 => k_is)
    (case k32 => k_is)
    (case a33 => k_is)
    (case l33 => k_is)
    (case c33 => k_is)
    (case k33 => k_is)
    (case a34 => k_is)
    (case l34 => k_is)
    (case c34 => k_is)
    (case k34 => k_is)
    (case a35 => k_is)
    (case l35 => k_is)
    (case c35 => k_is)
    (case k35 => k_is)
    (case a36 => k_is)
    (case l36 => k_is)
    (case c36 => k_is)
    (case k36 => k_is)
    (case a37 => k_is)
    (case l37 => k_is)
    (case c37 => k_is)
    (case k37 => k_is)
    (case a38 => k_is)
    (case l38 => k_is)
    (case c38 => k_is)
    (case k38 => k_is)
    (case a39 => k_is)
    (case l39 => k_is)
    (case c39 => k_is)
    (case k39 => k_is)
    (case a40 => k_is)
    (case l40 => k_is)
    (case c40 => k_is)
    (case k40 => k_is)
    (case a41 => k_is)
    (case l41 => k_is)
    (case c41 => k_is)
    (case k41 => k_is)
    (case a42 => k_is)
    (case l42 => k_is)
    (case c42 => k_is)
    (case k42 => k_is)
    (case a43 => k_is)
    (case l43 => k_is)
    (case c43 => k_is)
    (case k43 => k_is)
    (case a44 => k_is)
    (case l44 => k_is)
    (case c44 => k_is)
    (case k44 => k_is)
    (case a45 => k_is)
    (case l45 => k_is)
    (case c45 => k_is)
    (case k45 => k_is)
    (case a46 => k_is)
    (case l46 => k_is)
    (case c46 => k_is)
    (case k46 => k_is)
    (case a47 => k_is)
    (case l47 => k_is)
    (case c47 => k_is)
    (case k47 => k_is)
    (case a48 => k_is)
    (case l48 => k_is)
    (case c48 => k_is)
    (case k48 => k_is)
    (case a49 => k_is)
    (case l49 => k_is)
    (case c49 => k_is)
    (case k49 => k_is)
    (case a50 => k_is)
    (case l50 => k_is)
    (case c50 => k_is)
    (case k50 => k_is)
    (case z0 => k_is)
    (case z1 => k_is)
    (case z2 => k_is)
    (case z3 => k_is)
    (case z4 => k_is)
    (case z5 => k_is)
    (case z6 => k_is)
    (case z7 => k_is)
    (case z8 => k_is)
    (case z9 => k_is)
    (case z10 => k_is)
    (case z11 => k_is)
    (case z12 => k_is)
    (case z13 => k_is)
    (case z14 => k_is)
    (case cst0 => k_is)
    (case cstl0 => k_is)
    (case cst1 => k_is)
    (case cst2 => k_is)
    (case cst3 => k_is)
#print axioms PySem.Challenge.cw_joinedasks_k24_asks_and_trees_refused_holds

