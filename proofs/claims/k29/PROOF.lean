import PyProof.Rows.All
import Wide.All
import OpenK.AllK
import Wide.FinOn
import HandS.ForMost
import HandS.Defaults
import HandS.WideBits
import HandS.Conv
import HandS.IsInst
import HandS.RaiseMore
import HandS.SortInts
import HandS.Style
import HandS.Codes
import HandS.ForExc
import HandS.TryMany
import HandS.Flow
import KE.KEqSeq
import PyProof.ReprRoads
import KE.GoesMore
import KE.KDictZip
import PyProof.ListNew
import HandS.Zip
import HandS.TupAny
import HandS.More
import PySem.Challenge.RW_joinedasks_k29_whole_told_ones_handed_on
set_option Elab.async false
set_option linter.all false
set_option maxRecDepth 100000
set_option maxHeartbeats 4000000
set_option exponentiation.threshold 100000
namespace Toy
open PySem PySem.Spec PyProof.Rows L2
/-- a def of the text stands behind its name -/
structure Df (K : PySem.W.Frag) (mg : Str → Option Value) (x : Str) (st : Stmt) (ps : List Str) : Prop where
  ex : ∃ f fd, Fun K x x st f fd ∧ mg x = some (.ref f) ∧ Binds K fd ps []
theorem Df.of {K : PySem.W.Frag} {mg : Str → Option Value} {x : Str} {st : Stmt} {ps : List Str} {f : Addr} {oc : Value} {od an : Option Addr} {osl : Array (Option Value)} {kV doc pm cdv ct : Value}
    (l : K.lookup f = some ⟨oc, od, .func (PySem.W.fnOf x x (defArgs st) (defBody st) (defScope st) .none kV doc pm an cdv ct), osl⟩) (c : PySem.W.codeIn K cdv x = true) (k : PySem.W.keepIn K (.ref f) = true) (m : mg x = some (.ref f))
    (h : ∀ (kV doc pm : Value) (an : Option Addr) (cdv ct : Value) (us : List Value), us.length = ps.length → bindArgs (PySem.W.fnOf x x (defArgs st) (defBody st) (defScope st) .none kV doc pm an cdv ct) ⟨us, []⟩ = pure (ps.zip us)) : Df K mg x st ps :=
  ⟨_, _, fun_mk l c k, m, (fun_mk l c k).binds h⟩
end Toy
namespace Toy
open PySem PySem.Spec PyProof.Rows L2
/-- room for calls, and nothing is being shown (repr, str of containers ask that) -/
structure RoomG (k : Nat) (A : Around) : Prop where
  room : Room k A
  idle : A.guards = some []
theorem RoomG.less {j k : Nat} {A : Around} (r : RoomG k A) (h : j ≤ k) : RoomG j A := ⟨r.room.mono h, r.idle⟩
theorem RoomG.units {k : Nat} {A : Around} (r : RoomG k A) : A.units + 64 < cLine := r.room.units
theorem RoomG.in_ {k : Nat} {A : Around} (r : RoomG (k + 1) A) (env : Env) : RoomG k (A.deeper env) := ⟨r.room.deeper env, r.idle⟩
/-- a def's promise under such a call -/
structure FnG (P : Program) (w : World) (K : PySem.W.Frag) (mg : Str → Option Value) (base : Heap) (CX : CXT) (k : Nat) (f : Addr) (fd : FuncData) (ps : List Str) (sp : Sp) : Prop where
  arity : ∀ vs H Q E, sp vs H Q E → vs.length = ps.length
  go : ∀ {A : Around} {outer : List Env} {s : Shared} {H : Hp} {args : Args} {us : List Value} {vs : List V} {Q : VK} {E : XK}, RoomG k A → Env0 P w K mg base A outer s H →
    BindsTo s fd args (ps.zip us) → Vals vs us → sp vs H Q E → codeAny (model P w) A (.call (.ref f) args) (CR CX outer P w H s Q E) s
section
variable {P : Program} {w : World} {K : PySem.W.Frag} {mg : Str → Option Value} {base : Heap} {CX : CXT}
/-- a body that ends well ends the call well -/
theorem flow_end {N : List Str} {qual : Str} {scope : Scope} {f : Addr} {cd : Value} {A : Around} {outer : List Env} {s : Shared} {H : Hp} {Q : VK} {E : XK} {fl : Flow} {s' : Shared}
    (h : SP (cxOf CX P w K mg base N qual scope f cd A outer s H E) [] { nx := fun _ H' => Q .non H', rt := Q } fl s') :
    ∃ u, (fl = .next ∧ u = Value.none ∨ fl = .ret u) ∧ CE outer P w H s Q u s' := by
  cases fl with
  | next =>
    obtain ⟨σ, H1, J, q⟩ := h
    exact ⟨_, .inl ⟨rfl, rfl⟩, .non, H1, J.os, J.bare, J.base, J.hok, rfl, q⟩
  | ret u =>
    obtain ⟨v, σ, H1, J, r, q⟩ := h
    exact ⟨u, .inr rfl, v, H1, J.os, J.bare, J.base, J.hok, r, q⟩
  | brk =>
    obtain ⟨_, _, _, q⟩ := h
    cases q
  | cont =>
    obtain ⟨_, _, _, q⟩ := h
    cases q
/-- a def of the text, whatever its defaults -/
structure FunA (K : PySem.W.Frag) (x qual : Str) (st : Stmt) (f : Addr) (fd : FuncData) : Prop where
  ex : ∃ (oc : Value) (od : Option Addr) (dV kV doc pm : Value) (an : Option Addr) (cdv ct : Value) (osl : Array (Option Value)),
    fd = PySem.W.fnOf x qual (defArgs st) (defBody st) (defScope st) dV kV doc pm an cdv ct ∧ K.lookup f = some ⟨oc, od, .func fd, osl⟩ ∧ PySem.W.codeIn K cdv qual = true
theorem toA {K : PySem.W.Frag} {x qual : Str} {st : Stmt} {f : Addr} {fd : FuncData} (F : Fun K x qual st f fd) : FunA K x qual st f fd := by
  obtain ⟨oc, od, kV, doc, pm, an, cdv, ct, osl, e, lk, hcd⟩ := F.ex
  exact ⟨⟨oc, od, .none, kV, doc, pm, an, cdv, ct, osl, e, lk, hcd⟩⟩
theorem okGA {x qual : Str} {st : Stmt} {f : Addr} {fd : FuncData} {N ps : List Str} {k : Nat} {sp : Sp} (F : FunA K x qual st f fd) (S : FnScope N ps (defScope st)) (ar : ∀ vs H Q E, sp vs H Q E → vs.length = ps.length)
    (body : ∀ (cdv : Value) (A : Around) (outer : List Env) (s : Shared) (H : Hp) (vs : List V) (Q : VK) (E : XK), RoomG k (A.deeper (envOfC qual (defScope st) s.heap.objs.size f cdv)) → sp vs H Q E →
      ∃ t, PSs (cxOf CX P w K mg base N qual (defScope st) f cdv A outer s H E) (defBody st) t ∧ t { nx := fun _ H' => Q .non H', rt := Q } (start N vs) H) : FnG P w K mg base CX (k + 1) f fd ps sp := by
  obtain ⟨oc, od, dV, kV, doc, pm, an, cdv, ct, osl, rfl, lk, hcd⟩ := F.ex
  refine ⟨ar, ?_⟩
  intro A outer s H args us vs Q E room e0 hb rv hsp
  have kin : K.In s.heap := e0.mod.kin.keeps fun b o z => (e0.bs b o z).1
  have nolim : s.heap.NoLimit := e0.mod.nolimit.keeps fun b o z => (e0.bs b o z).1
  have kinds : ∀ y ∈ ps.zip us, (defScope st).names.lookup y.1 = some .local ∨ ((defScope st).names.lookup y.1 = some .cell ∧ ((cellsFrom (s.heap.objs.size + 1) (defScope st).names []).lookup y.1).isSome = true) := by
    rintro ⟨n, v⟩ hy
    exact (S.par n (List.of_mem_zip hy).1).imp _root_.id fun q => ⟨q, PySem.W.cellsFrom_some _ _ _ (.inl q)⟩
  refine codeAny_call_function room.room.depth (kin _ _ lk) rfl S.co S.gen rfl (PySem.W.codeRec_of kin hcd) (hb _ _ _ _ (wpAny_newFunctionEnv_cells S.kind kinds fun env he s1 inC => ?_))
  subst he
  obtain ⟨t, ht, hq⟩ := body cdv A outer s H vs Q E (room.in_ _) hsp
  refine ⟨nolim.keeps inC.toInCall.keep, codeAny_func (wpAny_mono (ht.run [] s1 (start N vs) H _ (inv_start S room.room.hd e0 (ar _ _ _ _ hsp) rv inC) hq) (fun fl s' z => ?_) fun e s' z => z)⟩
  obtain ⟨u, c, q⟩ := flow_end z
  rcases c with ⟨rfl, rfl⟩ | rfl
  · exact q
  · exact q
theorem okG0A {x qual : Str} {st : Stmt} {f : Addr} {fd : FuncData} {N ps : List Str} {k : Nat} {sp : Sp} (F : FunA K x qual st f fd) (S : FnScope N ps (defScope st)) (ar : ∀ vs H Q E, sp vs H Q E → vs.length = ps.length)
    (body : ∀ (cdv : Value) (A : Around) (outer : List Env) (s : Shared) (H : Hp) (vs : List V) (Q : VK) (E : XK), RoomG k (A.deeper (envOfC qual (defScope st) s.heap.objs.size f cdv)) → sp vs H Q E →
      ∃ t, PSs (cxOf CX0 P w K mg base N qual (defScope st) f cdv A outer s H E).nox (defBody st) t ∧ t { nx := fun _ H' => Q .non H', rt := Q } (start N vs) H) : FnG P w K mg base CX0 (k + 1) f fd ps sp :=
  okGA F S ar fun cdv A outer s H vs Q E hr hsp => (body cdv A outer s H vs Q E hr hsp).imp fun _ z => ⟨z.1.nox, z.2⟩
theorem okG {x qual : Str} {st : Stmt} {f : Addr} {fd : FuncData} {N ps : List Str} {k : Nat} {sp : Sp} (F : Fun K x qual st f fd) (S : FnScope N ps (defScope st)) (ar : ∀ vs H Q E, sp vs H Q E → vs.length = ps.length)
    (body : ∀ (cdv : Value) (A : Around) (outer : List Env) (s : Shared) (H : Hp) (vs : List V) (Q : VK) (E : XK), RoomG k (A.deeper (envOfC qual (defScope st) s.heap.objs.size f cdv)) → sp vs H Q E →
      ∃ t, PSs (cxOf CX P w K mg base N qual (defScope st) f cdv A outer s H E) (defBody st) t ∧ t { nx := fun _ H' => Q .non H', rt := Q } (start N vs) H) : FnG P w K mg base CX (k + 1) f fd ps sp :=
  okGA (toA F) S ar body
theorem okG0 {x qual : Str} {st : Stmt} {f : Addr} {fd : FuncData} {N ps : List Str} {k : Nat} {sp : Sp} (F : Fun K x qual st f fd) (S : FnScope N ps (defScope st)) (ar : ∀ vs H Q E, sp vs H Q E → vs.length = ps.length)
    (body : ∀ (cdv : Value) (A : Around) (outer : List Env) (s : Shared) (H : Hp) (vs : List V) (Q : VK) (E : XK), RoomG k (A.deeper (envOfC qual (defScope st) s.heap.objs.size f cdv)) → sp vs H Q E →
      ∃ t, PSs (cxOf CX0 P w K mg base N qual (defScope st) f cdv A outer s H E).nox (defBody st) t ∧ t { nx := fun _ H' => Q .non H', rt := Q } (start N vs) H) : FnG P w K mg base CX0 (k + 1) f fd ps sp :=
  okG0A (toA F) S ar body
end
section
variable {X : Cx} {CX : CXT} {k : Nat} {f : Addr} {fd : FuncData} {ps : List Str} {sp : Sp}
theorem run_G {pins : List (Addr × Obj)} {σ : L2.St} {H : Hp} {s : Shared} {Q : VK} {E : XK} {us : List Value} {vs : List V} (F : FnG X.prog X.w X.K X.mg X.base CX k f fd ps sp) (hr : RoomG k X.A) (hb : Binds X.K fd ps [])
    (out : ∀ e s', CX X.stack H s E e s' → X.xe e s') (I : Inv X pins σ H s) (r : Vals vs us) (h : sp vs H Q E) : wpAny (model X.prog X.w) X.A (call (.ref f) us) (EP X pins σ Q) X.xe s := by
  have n := (r.length).symm.trans (F.arity _ _ _ _ h)
  have b := hb s us I.kIn (by rw [List.append_nil, n])
  rw [List.append_nil] at b
  refine wpAny_call (codeAny_mono (F.go hr I.env0 b r h) ?_)
  rintro (e | fl) s' q
  · exact out e s' q
  · match fl, q with
    | .ret u, q => exact I.after q
/-- a def and its promise, by its name -/
structure Dn (P : Program) (w : World) (K : PySem.W.Frag) (mg : Str → Option Value) (base : Heap) (k : Nat) (x : Str) (ps : List Str) (sp : Sp) : Prop where
  ex : ∃ f fd, FnG P w K mg base CX0 k f fd ps sp ∧ PySem.W.keepIn K (.ref f) = true ∧ mg x = some (.ref f) ∧ Binds K fd ps []
/-- .. that may raise -/
structure Dx (P : Program) (w : World) (K : PySem.W.Frag) (mg : Str → Option Value) (base : Heap) (k : Nat) (x : Str) (ps : List Str) (sp : Sp) : Prop where
  ex : ∃ f fd, FnG P w K mg base (L2.CX P w) k f fd ps sp ∧ PySem.W.keepIn K (.ref f) = true ∧ mg x = some (.ref f) ∧ Binds K fd ps []
theorem Df.ok {P : Program} {w : World} {K : PySem.W.Frag} {mg : Str → Option Value} {base : Heap} {x : Str} {st : Stmt} (D : Df K mg x st ps)
    (h : ∀ f fd, Fun K x x st f fd → FnG P w K mg base CX0 k f fd ps sp) : Dn P w K mg base k x ps sp := by
  obtain ⟨f, fd, F, m, b⟩ := D.ex
  exact ⟨f, fd, h f fd F, F.kp, m, b⟩
theorem Df.okX {P : Program} {w : World} {K : PySem.W.Frag} {mg : Str → Option Value} {base : Heap} {x : Str} {st : Stmt} (D : Df K mg x st ps)
    (h : ∀ f fd, Fun K x x st f fd → FnG P w K mg base (L2.CX P w) k f fd ps sp) : Dx P w K mg base k x ps sp := by
  obtain ⟨f, fd, F, m, b⟩ := D.ex
  exact ⟨f, fd, h f fd F, F.kp, m, b⟩
variable {x : Str} {p pos : Pos} {e : Expr} {es : List Expr} {t : TA}
theorem pe_cD (D : Dn X.prog X.w X.K X.mg X.base k x ps sp) (hr : RoomG k X.A) (hg : Gl X x) (ha : PA X (e :: es) t) (hdb : (x == ("__debug__" : Str)) = false := by decide)
    (he : starEach (e :: es) X.env = (false, eval e X.env) :: starEach es X.env := by rfl) (hpl : (backTo pos (starEach es X.env)).any (·.1) = false := by rfl) : PE X (.Call (.Name x p) (e :: es) [] pos) (tCall sp [] E0 t) := by
  obtain ⟨f, fd, F, hk, hm, hb⟩ := D.ex
  refine ⟨fun pins s σ H Q I h => wpAny_Call_Name_kw (ld_glob I hg hm (PySem.W.callWith_K (h₀ := X.base) I.ok.mod.kin hk (thn (ha.run pos pins s σ H _ I h) fun us s1 ⟨vs, H1, I1, r, q⟩ => ⟨I1.kIn, ?_⟩) he hpl) hdb)⟩
  have q' : sp vs H1 Q E0 := by
    have z : sp (vs ++ []) H1 Q E0 := q
    rw [List.append_nil] at z
    exact z
  exact run_G F hr hb (fun _ _ z => z.elim) I1 r q'
theorem pe_cD0 (D : Dn X.prog X.w X.K X.mg X.base k x ps sp) (hr : RoomG k X.A) (hg : Gl X x) (hdb : (x == ("__debug__" : Str)) = false := by decide) : PE X (.Call (.Name x p) [] [] pos) (tCall sp [] E0 tNil) := by
  obtain ⟨f, fd, F, hk, hm, hb⟩ := D.ex
  refine ⟨fun pins s σ H Q I h => wpAny_Call_Name_kw (ld_glob I hg hm (PySem.W.callWith_K0 I.kIn hk (run_G (us := []) F hr hb (fun _ _ z => z.elim) I .nil h)) hdb)⟩
/-- a def with defaults: dvs fill up -/
structure Dfd (K : PySem.W.Frag) (mg : Str → Option Value) (x : Str) (st : Stmt) (ps : List Str) (dvs : List V) : Prop where
  ex : ∃ (f : Addr) (fd : FuncData) (ds : List Value), FunA K x x st f fd ∧ PySem.W.keepIn K (.ref f) = true ∧ mg x = some (.ref f) ∧ Binds K fd ps ds ∧ Vals dvs ds
theorem Dfd.of {K : PySem.W.Frag} {mg : Str → Option Value} {x : Str} {st : Stmt} {ps : List Str} {dvs : List V} {f T : Addr} {oc : Value} {od an : Option Addr} {osl : Array (Option Value)} {kV doc pm cdv ct : Value} {o : Obj} {its : List Value} {n m : Nat}
    (l : K.lookup f = some ⟨oc, od, .func (PySem.W.fnOf x x (defArgs st) (defBody st) (defScope st) (.ref T) kV doc pm an cdv ct), osl⟩) (c : PySem.W.codeIn K cdv x = true) (k : PySem.W.keepIn K (.ref f) = true) (mx : mg x = some (.ref f))
    (lT : K.lookup T = some o) (oT : o.data = .seq its.toArray m) (rT : Vals dvs its) (hn : n + dvs.length = ps.length)
    (h : ∀ (us : List Value), us.length = n → ∃ kk, bindArgs (PySem.W.fnOf x x (defArgs st) (defBody st) (defScope st) (.ref T) kV doc pm an cdv ct) ⟨us, []⟩ = seqItems? (.ref T) >>= kk ∧ kk (some its.toArray) = pure (ps.zip (us ++ its))) : Dfd K mg x st ps dvs := by
  refine ⟨f, _, its, ⟨⟨_, _, _, _, _, _, _, _, _, _, rfl, l, c⟩⟩, k, mx, fun s us X hlen => ?_, rT⟩
  have l1 := rT.length
  have l2 : us.length = n := by
    rw [List.length_append] at hlen
    omega
  obtain ⟨kk, e1, e2⟩ := h us l2
  refine BindsTo.of_looks fun M => ?_
  rw [e1]
  exact looks_items X lT oT (.of_pure e2)
/-- .. all parameters given -/
theorem Dfd.ofAll {K : PySem.W.Frag} {mg : Str → Option Value} {x : Str} {st : Stmt} {ps : List Str} {f T : Addr} {oc : Value} {od an : Option Addr} {osl : Array (Option Value)} {kV doc pm cdv ct : Value} {o : Obj} {its : List Value} {n m : Nat}
    (l : K.lookup f = some ⟨oc, od, .func (PySem.W.fnOf x x (defArgs st) (defBody st) (defScope st) (.ref T) kV doc pm an cdv ct), osl⟩) (c : PySem.W.codeIn K cdv x = true) (k : PySem.W.keepIn K (.ref f) = true) (mx : mg x = some (.ref f))
    (lT : K.lookup T = some o) (oT : o.data = .seq its.toArray m) (hn : n = ps.length)
    (h : ∀ (us : List Value), us.length = n → ∃ kk, bindArgs (PySem.W.fnOf x x (defArgs st) (defBody st) (defScope st) (.ref T) kV doc pm an cdv ct) ⟨us, []⟩ = seqItems? (.ref T) >>= kk ∧ kk (some its.toArray) = pure (ps.zip us)) : Dfd K mg x st ps [] := by
  refine ⟨f, _, [], ⟨⟨_, _, _, _, _, _, _, _, _, _, rfl, l, c⟩⟩, k, mx, fun s us X hlen => ?_, .nil⟩
  have l2 : us.length = n := by
    rw [List.append_nil] at hlen
    omega
  obtain ⟨kk, e1, e2⟩ := h us l2
  refine BindsTo.of_looks fun M => ?_
  rw [e1, List.append_nil]
  exact looks_items X lT oT (.of_pure e2)
/-- .. and its promise -/
structure DnD (P : Program) (w : World) (K : PySem.W.Frag) (mg : Str → Option Value) (base : Heap) (k : Nat) (x : Str) (ps : List Str) (dvs : List V) (sp : Sp) : Prop where
  ex : ∃ (f : Addr) (fd : FuncData) (ds : List Value), FnG P w K mg base CX0 k f fd ps sp ∧ PySem.W.keepIn K (.ref f) = true ∧ mg x = some (.ref f) ∧ Binds K fd ps ds ∧ Vals dvs ds
theorem Dfd.ok {P : Program} {w : World} {K : PySem.W.Frag} {mg : Str → Option Value} {base : Heap} {x : Str} {st : Stmt} {dvs : List V} (D : Dfd K mg x st ps dvs)
    (h : ∀ f fd, FunA K x x st f fd → FnG P w K mg base CX0 k f fd ps sp) : DnD P w K mg base k x ps dvs sp := by
  obtain ⟨f, fd, ds, F, kp, m, b, d⟩ := D.ex
  exact ⟨f, fd, ds, h f fd F, kp, m, b, d⟩
theorem run_Gd {pins : List (Addr × Obj)} {σ : L2.St} {H : Hp} {s : Shared} {Q : VK} {E : XK} {us ds : List Value} {vs dvs : List V} (F : FnG X.prog X.w X.K X.mg X.base CX k f fd ps sp) (hr : RoomG k X.A) (hb : Binds X.K fd ps ds) (hd : Vals dvs ds)
    (out : ∀ e s', CX X.stack H s E e s' → X.xe e s') (I : Inv X pins σ H s) (r : Vals vs us) (h : sp (vs ++ dvs) H Q E) : wpAny (model X.prog X.w) X.A (call (.ref f) us) (EP X pins σ Q) X.xe s := by
  have r2 : Vals (vs ++ dvs) (us ++ ds) := r.append hd
  have n : (us ++ ds).length = ps.length := by rw [← r2.length]; exact F.arity _ _ _ _ h
  refine wpAny_call (codeAny_mono (F.go hr I.env0 (hb s us I.kIn n) r2 h) ?_)
  rintro (e | fl) s' q
  · exact out e s' q
  · match fl, q with
    | .ret u, q => exact I.after q
theorem pe_cDd {dvs : List V} (D : DnD X.prog X.w X.K X.mg X.base k x ps dvs sp) (hr : RoomG k X.A) (hg : Gl X x) (ha : PA X (e :: es) t) (hdb : (x == ("__debug__" : Str)) = false := by decide)
    (he : starEach (e :: es) X.env = (false, eval e X.env) :: starEach es X.env := by rfl) (hpl : (backTo pos (starEach es X.env)).any (·.1) = false := by rfl) : PE X (.Call (.Name x p) (e :: es) [] pos) (tCall sp dvs E0 t) := by
  obtain ⟨f, fd, ds, F, hk, hm, hb, hd⟩ := D.ex
  refine ⟨fun pins s σ H Q I h => wpAny_Call_Name_kw (ld_glob I hg hm (PySem.W.callWith_K (h₀ := X.base) I.ok.mod.kin hk (thn (ha.run pos pins s σ H _ I h) fun us s1 ⟨vs, H1, I1, r, q⟩ => ⟨I1.kIn, ?_⟩) he hpl) hdb)⟩
  exact run_Gd F hr hb hd (fun _ _ z => z.elim) I1 r q
/-- a call within a try: what is raised is wished at the slots -/
theorem pe_cX {E : L2.St → XK} (D : Dx X.prog X.w X.K X.mg X.base k x ps sp) (hr : RoomG k X.A) (hg : Gl X x) (hx : ∀ σ, PassesAt (L2.CX X.prog X.w) X σ (E σ)) (ha : PA X (e :: es) t) (hdb : (x == ("__debug__" : Str)) = false := by decide)
    (he : starEach (e :: es) X.env = (false, eval e X.env) :: starEach es X.env := by rfl) (hpl : (backTo pos (starEach es X.env)).any (·.1) = false := by rfl) : PE X (.Call (.Name x p) (e :: es) [] pos) (tCallS sp E t) := by
  obtain ⟨f, fd, F, hk, hm, hb⟩ := D.ex
  exact ⟨fun pins s σ H Q I h => wpAny_Call_Name_kw (ld_glob I hg hm (PySem.W.callWith_K (h₀ := X.base) I.ok.mod.kin hk (thn (ha.run pos pins s σ H _ I h) fun us s1 ⟨vs, H1, I1, r, q⟩ =>
    ⟨I1.kIn, run_G F hr hb (fun e s' z => hx σ pins H1 s1 e s' I1 z) I1 r q⟩) he hpl) hdb)⟩
/-- repr of what is data -/
def rRepr (K : PySem.W.Frag) : List V → Hp → VK → Prop := fun xs H Q => ∃ (x : V) (d : PyData), xs = [x] ∧ Dp K H x d ∧ d.showable = true ∧ d.depth ≤ 60 ∧ d.shown.length ≤ sizeLine ∧ Q (.str d.shown) H
mutual
theorem dp_noDict {K : PySem.W.Frag} {H : Hp} : ∀ (d : PyData) (x : V), Dp K H x d → d.hasDict = false
  | .none, _, _ => rfl
  | .bool _, _, _ => rfl
  | .int _, _, _ => rfl
  | .str _, _, _ => rfl
  | .list ds, _, h => by
    cases h with
    | lst _ ha => simpa [PyData.hasDict] using dp_noDicts ds _ ha
  | .tuple ds, _, h => by
    cases h with
    | tup _ ha => simpa [PyData.hasDict] using dp_noDicts ds _ ha
  | .dict _, _, h => by cases h
theorem dp_noDicts {K : PySem.W.Frag} {H : Hp} : ∀ (ds : List PyData) (xs : List V), DpAll K H xs ds → PyData.hasDictAll ds = false
  | [], _, _ => by simp [PyData.hasDictAll]
  | d :: ds, _, h => by
    cases h with
    | cons a b => simp [PyData.hasDictAll, dp_noDict d _ a, dp_noDicts ds _ b]
end
theorem reprK {K : PySem.W.Frag} (hr : RoomG k X.A) (eK : X.K = K := by rfl) : CallR X (.builtin "repr") (rRepr K) := by
  cases eK
  intro pins s σ H xs us Q I r h
  obtain ⟨x, d, rfl, hd, hs, hdep, hz, q⟩ := h
  obtain ⟨u, rfl, rx⟩ := vals1 r
  obtain ⟨as, rd⟩ := Dp.reads I d x u hd rx
  have hu := hr.units
  have nd := dp_noDict d x hd
  cases hd with
  | non => cases rx; exact PySem.P.repr_of_none ⟨.str _, H, I.tok _, ⟨_, rfl⟩, q⟩
  | bl b => cases rx; exact PySem.P.repr_of_bool ⟨.str _, H, I.tok _, ⟨_, rfl⟩, q⟩
  | int i => obtain ⟨t, rfl⟩ := rx; exact PySem.P.repr_of_int (of_decide_eq_true (by simpa [PyData.showable] using hs)) ⟨.str _, H, I.tok _, ⟨_, rfl⟩, q⟩
  | str z => obtain ⟨t, rfl⟩ := rx; exact PySem.P.repr_of_str ⟨.str _, H, I.tok _, ⟨_, rfl⟩, q⟩ hz
  | lst hq ha =>
    cases rx
    refine repr_of_reads' rd hs (PyData.noDict_hsm nd) hr.idle (by omega) (fun _ _ z => z) (fun h' u tk hk => ⟨.str _, H, I.kept hk, ⟨_, rfl⟩, q⟩) hz
  | tup hq ha =>
    cases rx
    refine repr_of_reads' rd hs (PyData.noDict_hsm nd) hr.idle (by omega) (fun _ _ z => z) (fun h' u tk hk => ⟨.str _, H, I.kept hk, ⟨_, rfl⟩, q⟩) hz
end
end Toy
namespace Toy
open PySem PySem.Spec PyProof.Rows L2
/-- what was tracked stays, but for one object -/
def But (p : Addr) (H H' : Hp) : Prop := ∀ b o, b ≠ p → H b = some o → H' b = some o
theorem But.refl {p : Addr} {H : Hp} : But p H H := fun _ _ _ h => h
theorem But.trans {p : Addr} {H H1 H2 : Hp} (a : But p H H1) (b : But p H1 H2) : But p H H2 := fun c o n h => b c o n (a c o n h)
theorem But.free {p : Addr} {H H' : Hp} (e : But p H H') {l : Addr} (n : l ≠ p) (h : H' l = Option.none) : H l = Option.none := by
  cases q : H l with
  | none => rfl
  | some o =>
    rw [e l o n q] at h
    cases h
theorem same_but {p : Addr} {H H' : Hp} (a : Same H H') : But p H H' := fun c o _ h => a c o h
theorem But.upd {p : Addr} {H : Hp} {o : HO} : But p H (upd H p o) := fun b u n h => by rw [upd_ne n]; exact h
theorem same_new {H : Hp} {p : Addr} (h : H p = none) (o : HO) : Same H (upd H p o) := fun b u q => by rw [upd_ne (ne_of_none q h)]; exact q
theorem but_tup {p : Addr} {K : PySem.W.Frag} {H H' : Hp} {a : Addr} {xs ys : List V} (e : But p H H') (hp : H p = some (.lst ys)) (h : SqT K H a xs) : SqT K H' a xs := by
  rcases h with (h | ⟨o, h⟩) | h
  · exact .inl (.inl (e _ _ (ne_of h hp (by intro z; cases z)) h))
  · exact .inl (.inr ⟨o, e _ _ (ne_of h hp (by intro z; cases z)) h⟩)
  · exact .inr h
theorem same_tup {K : PySem.W.Frag} {H H' : Hp} {a : Addr} {xs : List V} (e : Same H H') (h : SqT K H a xs) : SqT K H' a xs := by
  rcases h with (h | ⟨o, h⟩) | h
  · exact .inl (.inl (e _ _ h))
  · exact .inl (.inr ⟨o, e _ _ h⟩)
  · exact .inr h
/-- the script stays -/
theorem but_seq {p : Addr} {K : PySem.W.Frag} {H H' : Hp} {a : Addr} {xs : List V} (e : But p H H') (n : a ≠ p) (h : SqL K H a xs) : SqL K H' a xs := by
  rcases h with (h | ⟨o, h⟩) | h
  · exact .inl (.inl (e _ _ n h))
  · exact .inl (.inr ⟨o, e _ _ n h⟩)
  · exact .inr h
theorem small {n : Nat} (h : n ≤ 1000) : n ≤ sizeLine := Nat.le_of_lt (small1000 h)
theorem log_lt {i : Int} {n : Nat} (h0 : 0 < n) (h : i.natAbs < 2 ^ n) : i.natAbs.log2 < n := PySem.Flt.log2_lt_of h0 h
theorem divp_small {i j : Int} (hj : 0 < j) (h : j < 2 ^ 8000) : CDivP i j := by
  refine ⟨hj, PyProof.noPylong_of_log2 ?_⟩
  exact Nat.lt_trans (log_lt (n := 8000) (by decide) (by omega)) (by decide)
end Toy
namespace Toy
open PySem PySem.Spec PyProof.Rows L2
theorem ifT {c : Bool} {A B : Prop} (hc : c = true) (h : A) : if c = true then A else B := by rw [if_pos hc]; exact h
theorem ifF {c : Bool} {A B : Prop} (hc : c = false) (h : B) : if c = true then A else B := by rw [hc]; exact iteF h
theorem pj {j : Int} (h : decide ((0 : Int) < j) = true := by decide) : 0 < j := of_decide_eq_true h
theorem sz {xs : List V} (h : Nat.ble xs.length 1000 = true := by rfl) : xs.length ≤ sizeLine := small (Nat.le_of_ble_eq_true h)
theorem but_same {p : Addr} {H H1 H2 : Hp} (n : H p = none) (a : Same H H1) (b : But p H1 H2) : Same H H2 := fun c o h => b c o (ne_of_none h n) (a c o h)
/-- two ways of a value meet -/
theorem ifE {ta tb : TE} {σ : L2.St} {H : Hp} {Q : VK} {b : Bool} (R : V → Hp → Prop) (h : ∀ v H', R v H' → Q v H') (h1 : b = true → ∀ Q' : VK, (∀ v H', R v H' → Q' v H') → ta σ H Q') (h2 : b = false → ∀ Q' : VK, (∀ v H', R v H' → Q' v H') → tb σ H Q') :
    if b = true then ta σ H Q else tb σ H Q := by
  cases b with
  | true => exact iteT (h1 rfl Q h)
  | false => exact iteF (h2 rfl Q h)
theorem mulx {i j : Int} (a b : Nat) (ha : i.natAbs < 2 ^ a) (hb : j.natAbs < 2 ^ b) (h : a + b ≤ 134217728 := by decide) : CMulX i j := mulx_ok ha hb h
end Toy
namespace Toy
open PySem PySem.Spec PyProof.Rows L2
theorem qi {Q : VK} {H : Hp} {a b : Int} (q : Q (.int a) H) (e : a = b) : Q (.int b) H := e ▸ q
end Toy
namespace Toy
open PySem PySem.Spec PyProof.Rows L2
/-- the written part by its letter -/
theorem kk {α : Sort _} {P : α → Prop} {F : PySem.W.Frag → α} {K0 K : PySem.W.Frag} (h : P (F K0)) (e : K0 = K := by rfl) : P (F K) := e ▸ h
def rLen (K : PySem.W.Frag) : List V → Hp → VK → Prop := fun xs H Q => ∃ p ys, xs = [.ref p] ∧ (SqL K H p ys ∨ SqT K H p ys) ∧ Q (.int ys.length) H
theorem lenK {X : Cx} {K : PySem.W.Frag} (e : X.K = K := by rfl) : CallR X (.builtin "len") (rLen K) := by cases e; exact call_len_seq
def rLstOf (K : PySem.W.Frag) : List V → Hp → VK → Prop := fun xs H Q => ∃ p ys, xs = [.ref p] ∧ (SqL K H p ys ∨ SqT K H p ys) ∧ ∀ l, H l = none → Q (.ref l) (upd H l (.lst ys))
theorem lstOfK {X : Cx} {K : PySem.W.Frag} (e : X.K = K := by rfl) : CallR X (.type "list") (rLstOf K) := by cases e; exact call_list_of
def rTupOf (K : PySem.W.Frag) : List V → Hp → VK → Prop := fun xs H Q => ∃ p ys, xs = [.ref p] ∧ ((SqL K H p ys ∧ ∀ l, H l = none → Q (.ref l) (upd H l (.tup ys))) ∨ (SqT K H p ys ∧ Q (.ref p) H))
theorem tupOfK {X : Cx} {K : PySem.W.Frag} (e : X.K = K := by rfl) : CallR X (.type "tuple") (rTupOf K) := by cases e; exact call_tuple_of
theorem dec_ne {α : Type} [DecidableEq α] {a b : α} (h : a = b) : (!decide (a = b)) = false := by rw [decide_eq_true h] <;> rfl
end Toy
namespace Toy
open PySem PySem.Spec PyProof.Rows L2
/-- a tuple of the written part; a tuple that never changes -/
def KTup (K : PySem.W.Frag) (a : Addr) (xs : List V) : Prop := ∃ (o : Obj) (its : Array Value) (n : Nat), K.lookup a = some o ∧ o.cls = .type "tuple" ∧ o.data = .seq its n ∧ its.size ≤ sizeLine ∧ Vals xs its.toList
def TupAt (K : PySem.W.Frag) (H : Hp) (a : Addr) (xs : List V) : Prop := H a = some (.tup xs) ∨ KTup K a xs
theorem TupAt.sq {K : PySem.W.Frag} {H : Hp} {a : Addr} {xs : List V} (h : TupAt K H a xs) : SqT K H a xs := by
  rcases h with h | h
  · exact SqT.of h
  · exact .inr h
theorem TupAt.ty {K : PySem.W.Frag} {H : Hp} {a : Addr} {xs : List V} (h : TupAt K H a xs) : TyX K H (.ref a) (.type "tuple") := by
  rcases h with h | ⟨o, its, n, h1, h2, _⟩
  · exact .base (.tup h)
  · exact .kTuple h1 h2
theorem TupAt.same {K : PySem.W.Frag} {H H' : Hp} {a : Addr} {xs : List V} (e : Same H H') (h : TupAt K H a xs) : TupAt K H' a xs := h.imp (e _ _) id
theorem TupAt.but {K : PySem.W.Frag} {H H' : Hp} {a p : Addr} {xs ys : List V} (e : But p H H') (hp : H p = some (.lst ys)) (h : TupAt K H a xs) : TupAt K H' a xs := h.imp (fun h => e _ _ (ne_of h hp (by intro z; cases z)) h) id
end Toy
namespace Toy
open PySem PySem.Spec PyProof.Rows L2
theorem ints_dp {K : PySem.W.Frag} {H : Hp} : ∀ ns : List Int, DpAll K H (ns.map V.int) (ns.map PyData.int)
  | [] => .nil
  | n :: r => .cons (.int n) (ints_dp r)
theorem ints_sh (ns : List Int) : SeqAt.shaped (.list (ns.map PyData.int)) = true := PySem.W.ke_shaped_ints ns
theorem ints_refl (ns : List Int) : PyData.eqv (.list (ns.map PyData.int)) (.list (ns.map PyData.int)) = true := SeqAt.eqv_refl _ (SeqAt.canLay_of_shaped (ints_sh ns))
theorem lst_dp {K : PySem.W.Frag} {H : Hp} {a : Addr} {ns : List Int} (h : SqL K H a (ns.map V.int)) : Dp K H (.ref a) (.list (ns.map PyData.int)) := .lst h (ints_dp ns)
theorem tupI_dp {K : PySem.W.Frag} {H : Hp} {a : Addr} {ns : List Int} (h : SqT K H a (ns.map V.int)) : Dp K H (.ref a) (.tuple (ns.map PyData.int)) := .tup h (ints_dp ns)
theorem tupI_sh (ns : List Int) : SeqAt.shaped (.tuple (ns.map PyData.int)) = true := ints_sh ns
theorem tupI_refl (ns : List Int) : PyData.eqv (.tuple (ns.map PyData.int)) (.tuple (ns.map PyData.int)) = true := SeqAt.eqv_refl _ (SeqAt.canLay_of_shaped (tupI_sh ns))
theorem cut_map (us : List Int) (lo hi : Option Int) : ∃ ws : List Int, cutV (us.map V.int) lo hi = ws.map V.int ∧ ws.length ≤ us.length ∧ ∀ x ∈ ws, x ∈ us := by
  refine ⟨(us.drop (HT.sIx (us.map V.int).length 0 lo)).take (HT.sIx (us.map V.int).length (us.map V.int).length hi - HT.sIx (us.map V.int).length 0 lo), ?_, ?_, fun x hx => List.mem_of_mem_drop (List.mem_of_mem_take hx)⟩
  · unfold cutV; rw [List.map_take, List.map_drop]
  · rw [List.length_take, List.length_drop]; omega
theorem at_map {us : List Int} {i : Nat} {y : V} (h : (us.map V.int)[i]? = some y) : ∃ x : Int, y = .int x ∧ us[i]? = some x := by
  rw [List.getElem?_map] at h
  cases e : us[i]? with
  | none => rw [e] at h; cases h
  | some x => rw [e] at h; exact ⟨x, (Option.some.inj h).symm, rfl⟩
end Toy
namespace Toy
open PySem PySem.Spec PyProof.Rows L2
/-- the heap in which the script alone stands, unless the text's own part holds it -/
def scriptH (K : PySem.W.Frag) (a : Addr) (o : Obj) (ns : List Int) : Hp := fun c => if (K.lookup a).isNone = true ∧ c = a then some (.frz o (.lst (ns.map V.int))) else none
theorem scriptH_none {K : PySem.W.Frag} {a b : Addr} {o : Obj} {ns : List Int} : scriptH K a o ns b = none ∨ (b = a ∧ K.lookup a = none ∧ scriptH K a o ns b = some (.frz o (.lst (ns.map V.int)))) := by
  unfold scriptH
  by_cases c : (K.lookup a).isNone = true ∧ b = a
  · exact .inr ⟨c.2, Option.isNone_iff_eq_none.mp c.1, if_pos c⟩
  · exact .inl (if_neg c)
theorem law_G {P : Program} {w : World} {K : PySem.W.Frag} {mg mb : Str → Option Value} {k : Nat} {fa a : Addr} {fd : FuncData} {x : Str} {sp : Sp} {s : Shared} {vs : List Value} {ns : List Int}
    (KX : K.In s.heap) (hns : s.heap.Ns mainGlobals mg) (hb : s.heap.Ns builtinsNs mb) (hbb : ∀ x : Str, x ≠ "__name__" → mb x = bootBuiltins x) (hlim : s.heap.NoLimit) (hg : s.gens = #[])
    (ha : s.heap.get? a = some { cls := .type "list", data := .seq vs.toArray }) (hi : IntsAre vs ns) (hl : ns.length ≤ sizeLine) (hr : Room k PySem.callerA)
    (F : ∀ base : Heap, K.In base → base.Ns mainGlobals mg → FnG P w K mg base CX0 k fa fd [x] sp) (hbind : ∀ (s : Shared) (u : Value), BindsTo s fd ⟨[u], []⟩ [(x, u)])
    (hsp : ∀ H : Hp, SqL K H a (ns.map V.int) → sp [.ref a] H (fun v _ => v = .bl true) fun _ _ _ => False) :
    codeAny (model P w) PySem.callerA (.call (.ref fa) ⟨[.ref a], []⟩) (fun r s' => r = .ok (.ret (.bool true)) ∧ OldK s.heap s'.heap ∧ s'.os = s.os ∧ AllBare s'.gens) s := by
  let H : Hp := scriptH K a { cls := .type "list", data := .seq vs.toArray } ns
  have hH : ∀ b, H b = none ∨ (b = a ∧ K.lookup a = none ∧ H b = some (.frz { cls := .type "list", data := .seq vs.toArray } (.lst (ns.map V.int)))) := fun b => scriptH_none
  have rv := vals_ints hi
  have hok : HOk P w H s.heap := by
    intro b u e
    rcases hH b with z | ⟨rfl, _, z⟩
    · rw [z] at e; cases e
    · rw [z] at e
      cases e
      exact ⟨ha, by rw [List.length_map]; exact hl, vs, _, rv, ha⟩
  have hS : SqL K H a (ns.map V.int) := by
    cases q : K.lookup a with
    | none => exact .inl (.inr ⟨_, show scriptH K a _ ns a = _ from if_pos ⟨by rw [q] <;> rfl, rfl⟩⟩)
    | some o =>
      have e := KX a o q
      rw [ha] at e
      cases e
      exact .inr ⟨_, vs.toArray, _, q, rfl, rfl, rfl, by rw [List.size_toArray, hi.length]; exact hl, by simpa using rv⟩
  -- what is no list is not the script
  have notA : ∀ {b : Addr} {o : Obj} {es : Array DictEntry} {ep : Nat}, s.heap.get? b = some o → o.data = .dict es ep → H b = none := by
    intro b o es ep e d
    rcases hH b with z | ⟨rfl, _, _⟩
    · exact z
    · rw [ha] at e
      cases e
      cases (show Data.seq vs.toArray _ = Data.dict es ep from d)
  have ns' : ∀ {b : Addr} {m : Str → Option Value}, s.heap.Ns b m → (hidT s.heap H).Ns b m := by
    rintro b m ⟨o, es, ep, e, d, r⟩
    exact ⟨o, es, ep, hidT_get e (notA e d), d, r⟩
  have kin' : K.In (hidT s.heap H) := by
    intro b o e
    refine hidT_get (KX b o e) ?_
    rcases hH b with z | ⟨rfl, q, _⟩
    · exact z
    · rw [q] at e; cases e
  have md : Mod K mg (hidT s.heap H) := ⟨kin', ns' hns, ⟨mb, ns' hb, hbb⟩, hlim.imp fun _ z => ⟨ns' z.1, z.2⟩⟩
  have e0 : Env0 P w K mg (hidT s.heap H) PySem.callerA [] s H := ⟨rfl, md, fun _ _ z => of_hidT z, Nat.le_of_eq (hidT_size _ _), trivial, (by intro b z; cases z), hok, .of_eq hg⟩
  refine codeAny_mono ((F _ kin' (ns' hns)).go (us := [.ref a]) (vs := [.ref a]) ⟨hr, rfl⟩ e0 (hbind s (.ref a)) (.cons rfl .nil) (hsp H hS)) ?_
  rintro (e | fl) s' q
  · exact q.elim
  match fl, q with
  | .ret u, ⟨v, H', os, bare, un, ok', r', q⟩ =>
    have q' : v = .bl true := q
    subst q'
    obtain rfl : u = Value.bool true := r'
    refine ⟨rfl, OldK.of_keep fun b o e => ?_, os, bare⟩
    rcases hH b with z | ⟨_, _, z⟩
    · exact un.keep b o e z (by intro y; cases y) (by intro y; cases y)
    · have z1 := (hok b _ z).1
      have z2 := (ok' b _ (un.frzs b _ _ z)).1
      rw [e] at z1
      cases z1
      exact z2
theorem walk_G {l : PySem.W.OpenLaw} {n k : Nat} {q : Program} {loose : List Str} {XP : (Str → Option Value) → Heap → Prop} {YP : World → Heap → Prop} {d : DefRec} {K : Params → PySem.W.Frag} {sp : PySem.W.Frag → Sp} {x : Str}
    (hn : l.most = some n) (hn2 : n ≤ sizeLine) (hdf : d.params.defaults = []) (hr : Room k PySem.callerA) (hY : ∀ (w : World) (h : Heap), YP w h → (K w.params).In h)
    (F : ∀ (w : World) (mg : Str → Option Value) (fa : Addr) (h : Heap), (K w.params).In h → h.Ns mainGlobals mg → mg d.name = some (.ref fa) →
      ∃ fd : FuncData, (∀ (s : Shared) (u : Value), BindsTo s fd ⟨[u], []⟩ [(x, u)]) ∧ ∀ base : Heap, (K w.params).In base → base.Ns mainGlobals mg → FnG l.prog w (K w.params) mg base CX0 k fa fd [x] (sp (K w.params)))
    (hsp : ∀ (K : PySem.W.Frag) (H : Hp) (a : Addr) (ns : List Int), ns.length ≤ n → SqL K H a (ns.map V.int) → sp K [.ref a] H (fun v _ => v = .bl true) fun _ _ _ => False) :
    PySem.W.WalkO q loose XP YP l.row.toRowW d [] (fun f vs => PySem.call f vs) :=
  Att.attach_call hn hdf fun w s0 s1 mg mb fa o pm cd doc a vs ns G Y ho hd hcd hmg hobj hints hlen hg => by
    have KX := hY w _ Y
    obtain ⟨fd, hbd, hF⟩ := F w mg fa _ KX G.T.g hmg
    exact law_G KX G.T.g G.T.b G.T.builtins G.T.nolimit hg hobj hints (Nat.le_trans hlen hn2) hr hF hbd fun H hS => hsp _ H a ns hlen hS
end Toy
namespace Toy
open PySem PySem.Spec PyProof.Rows L2
/-! ### how long a shown datum is -/
mutual
def cst : PyData → Nat
  | .none => 5
  | .bool _ => 5
  | .int _ => 1921
  | .str x => (reprText x).length
  | .list xs => csts xs + 4
  | .tuple xs => csts xs + 4
  | .dict _ => 0
def csts : List PyData → Nat
  | [] => 0
  | x :: xs => cst x + 4 + csts xs
end
theorem tupT_len (ts : List Str) : (tupleText ts).length ≤ piled ts + 4 := by
  unfold tupleText
  rw [strLen_append, strLen_append]
  have e1 : ((("(" : String) : Str)).length = 1 := rfl
  have e3 : (((if ts.length == 1 then ",)" else ")" : String) : Str)).length ≤ 2 := by split <;> decide +kernel
  by_cases h : ts = []
  · subst h; decide +kernel
  · have := join_length_add ts h; omega
theorem txtFrom_len : ∀ (ts : List Str) (k : Nat) (acc : Str), (textFrom k acc ts).length ≤ acc.length + piled ts
  | [], k, acc => Nat.le_add_right _ _
  | t :: r, k, acc => by
    have h := txtFrom_len r (k + 1) (acc ++ (if k > 0 then ", " else "" : String) ++ t)
    have e : (acc ++ (if k > 0 then ", " else "" : String) ++ t).length = acc.length + (if k > 0 then 2 else 0) + t.length := by
      rw [strLen_append, strLen_append]
      split <;> rfl
    rw [e] at h
    rw [piled_cons]
    have h2 : (textFrom k acc (t :: r)).length = (textFrom (k + 1) (acc ++ (if k > 0 then ", " else "" : String) ++ t) r).length := rfl
    rw [h2]
    have e2 : (if k > 0 then 2 else 0) ≤ 2 := by split <;> omega
    omega
theorem lstT_len (ts : List Str) : (listText ts).length ≤ piled ts + 4 := by
  unfold listText
  rw [strLen_append]
  have h := txtFrom_len ts 0 "["
  have e1 : ((("[" : String) : Str)).length = 1 := rfl
  have e2 : ((("]" : String) : Str)).length = 1 := rfl
  omega
mutual
theorem shown_le : ∀ d : PyData, d.showable = true → d.hasDict = false → d.shown.length ≤ cst d
  | .none, _, _ => by show (("None" : String) : Str).length ≤ 5; decide +kernel
  | .bool b, _, _ => by cases b <;> (show _ ≤ 5; decide +kernel)
  | .int i, h, _ => PyProof.Rows.int_text_len_1921 (of_decide_eq_true (by simpa [PyData.showable] using h))
  | .str x, _, _ => Nat.le_refl _
  | .list ds, h, g => by
    have h1 := showns_le ds (by simpa [PyData.showable] using h) (by simpa [PyData.hasDict] using g)
    have h2 := lstT_len (PyData.shownAll ds)
    show (listText (PyData.shownAll ds)).length ≤ csts ds + 4
    omega
  | .tuple ds, h, g => by
    have h1 := showns_le ds (by simpa [PyData.showable] using h) (by simpa [PyData.hasDict] using g)
    have h2 := tupT_len (PyData.shownAll ds)
    show (tupleText (PyData.shownAll ds)).length ≤ csts ds + 4
    omega
  | .dict _, _, g => by simp [PyData.hasDict] at g
theorem showns_le : ∀ ds : List PyData, PyData.showableAll ds = true → PyData.hasDictAll ds = false → piled (PyData.shownAll ds) ≤ csts ds
  | [], _, _ => Nat.le_refl _
  | d :: ds, h, g => by
    have h1 := shown_le d (by simp [PyData.showableAll] at h; exact h.1) (by simp [PyData.hasDictAll] at g; exact g.1)
    have h2 := showns_le ds (by simp [PyData.showableAll] at h; exact h.2) (by simp [PyData.hasDictAll] at g; exact g.2)
    show piled (d.shown :: PyData.shownAll ds) ≤ _
    rw [piled_cons]
    show _ ≤ cst d + 4 + csts ds
    omega
end
theorem shown_sz {d : PyData} (h : d.showable = true) (g : d.hasDict = false) (c : cst d ≤ 10000000) : d.shown.length ≤ sizeLine :=
  Nat.le_trans (shown_le d h g) (Nat.le_trans c (by decide))
end Toy
namespace Toy
open PySem PySem.Spec PyProof.Rows L2
/-- a list of ints grown by a part of another one -/
theorem ext_cut {L z : Addr} {ws es : List Int} {lo hi : Option Int} {H : Hp} {R : VK} (hL : H L = some (.lst (ws.map V.int))) (hz : H z = some (.lst (cutV (es.map V.int) lo hi))) (hs : ws.length + es.length ≤ 1000)
    (q : ∀ us : List Int, us.length ≤ es.length → (∀ x ∈ us, x ∈ es) → R .non (upd H L (.lst ((ws ++ us).map V.int)))) : rExtend (.ref L) [.ref z] H R := by
  obtain ⟨us, e, h1, h2⟩ := cut_map es lo hi
  rw [e] at hz
  refine ⟨L, z, _, _, rfl, rfl, hL, hz, small (by rw [List.length_map, List.length_map]; omega), ?_⟩
  have := q us h1 h2
  rw [List.map_append] at this
  exact this
theorem rep_len {n : Nat} : ((List.replicate n true).map V.bl).length = n := by rw [List.length_map, List.length_replicate]
theorem rep_snoc {n : Nat} : (List.replicate n true).map V.bl ++ [V.bl true] = (List.replicate (n + 1) true).map V.bl := by rw [List.replicate_succ', List.map_append] <;> rfl
theorem rep_all (n : Nat) : (List.replicate n true).all id = true := by rw [List.all_eq_true]; intro x hx; rw [List.mem_replicate] at hx; exact hx.2
theorem ixn {n j : Nat} (hj : j < n) : ixN n (j : Int) = some j := by
  unfold ixN
  rw [if_pos (by omega), if_pos (by omega)]
  exact congrArg some (Int.toNat_natCast j)
theorem dec_self (a : V) : decide (a = a) = true := decide_eq_true rfl
end Toy
namespace Toy
open PySem PySem.Spec PyProof.Rows L2
/-- a comprehension within a comprehension -/
theorem relabel_kept {env : Env} : ∀ {names : List (Str × NameKind)} {x : Str}, names.lookup x = some .cell ∨ names.lookup x = some .free →
    (names.map fun (n, k) => if (k == NameKind.free && env.scope.kind == .function && env.kindOf n == some .cell) then (n, NameKind.cell) else (n, k)).lookup x = some .cell ∨
    (names.map fun (n, k) => if (k == NameKind.free && env.scope.kind == .function && env.kindOf n == some .cell) then (n, NameKind.cell) else (n, k)).lookup x = some .free
  | [], _, h => by simp at h
  | (n, k) :: r, x, h => by
    have ih := @relabel_kept env r x
    show List.lookup x ((if (k == NameKind.free && env.scope.kind == .function && env.kindOf n == some .cell) = true then (n, NameKind.cell) else (n, k)) :: _) = _ ∨ List.lookup x ((if (k == NameKind.free && env.scope.kind == .function && env.kindOf n == some .cell) = true then (n, NameKind.cell) else (n, k)) :: _) = _
    cases hx : x == n with
    | true =>
      simp only [List.lookup_cons, hx] at h
      by_cases hc : (k == NameKind.free && env.scope.kind == .function && env.kindOf n == some .cell) = true
      · rw [if_pos hc]; exact .inl (by simp [List.lookup_cons, hx])
      · rw [if_neg hc]; simp only [List.lookup_cons, hx]; exact h
    | false =>
      simp only [List.lookup_cons, hx] at h
      by_cases hc : (k == NameKind.free && env.scope.kind == .function && env.kindOf n == some .cell) = true
      · rw [if_pos hc]; simp only [List.lookup_cons, hx]; exact ih h
      · rw [if_neg hc]; simp only [List.lookup_cons, hx]; exact ih h
theorem blkOk_nest {X : Cx} {s : Shared} {H : Hp} {scope1 scope : Scope} {cl : List (Str × Addr)} {C : Addr} {env : Env} {fp : List Addr} {own : List (Str × Nat)} {N : List Str} (hN : X.N = N) (h : blkC N scope1 scope own = true) :
    BlkOk (X.blk s H scope1 (compEnvC scope1 cl C env) fp).N (X.blk s H scope1 (compEnvC scope1 cl C env) fp).env.scope scope own := by
  subst hN
  obtain ⟨h1, h2, h3, h4, h5⟩ := blkOk_by h
  exact ⟨h1, h2, h3, fun y hy e => relabel_kept (h4 y hy e), h5⟩
end Toy
namespace Toy
open PySem PySem.Spec PyProof.Rows L2
/-! ### own classes -/
/-- where a name's class stands -/
def cAt (mg : Str → Option Value) (x : Str) : Addr := match mg x with | some (.ref C) => C | _ => 0
theorem cAt_eq {mg : Str → Option Value} {x : Str} {C : Addr} (h : mg x = some (.ref C)) : cAt mg x = C := by unfold cAt; rw [h]
structure ClsF (K : PySem.W.Frag) (mg : Str → Option Value) (x : Str) (fs : List Str) : Prop where
  mg_ : mg x = some (.ref (cAt mg x))
  cl : Cls K (cAt mg x)
  no : ∀ f ∈ fs, NoAttr K (cAt mg x) f
theorem ClsF.of {K : PySem.W.Frag} {mg : Str → Option Value} {x : Str} {C : Addr} {fs : List Str} (m : mg x = some (.ref C)) (c : Cls K C) (n : ∀ f ∈ fs, NoAttr K C f) : ClsF K mg x fs := by
  have e := cAt_eq m
  exact ⟨by rw [e]; exact m, by rw [e]; exact c, by rw [e]; exact n⟩
/-- a method, by its class -/
structure DfM (K : PySem.W.Frag) (C : Addr) (m q : Str) (st : Stmt) (ps : List Str) : Prop where
  ex : ∃ f fd, Fun K m q st f fd ∧ Meth K C m f ∧ Binds K fd ps []
theorem DfM.of {K : PySem.W.Frag} {mg : Str → Option Value} {x m q : Str} {st : Stmt} {ps : List Str} {f C : Addr} {oc : Value} {od an : Option Addr} {osl : Array (Option Value)} {kV doc pm cdv ct : Value} (hC : mg x = some (.ref C))
    (a : PySem.W.findIn K (.ref C) m = some (some (.ref f))) (i : PySem.W.isFn K (.ref f) = true)
    (l : K.lookup f = some ⟨oc, od, .func (PySem.W.fnOf m q (defArgs st) (defBody st) (defScope st) .none kV doc pm an cdv ct), osl⟩) (c : PySem.W.codeIn K cdv q = true) (k : PySem.W.keepIn K (.ref f) = true)
    (h : ∀ (kV doc pm : Value) (an : Option Addr) (cdv ct : Value) (us : List Value), us.length = ps.length → bindArgs (PySem.W.fnOf m q (defArgs st) (defBody st) (defScope st) .none kV doc pm an cdv ct) ⟨us, []⟩ = pure (ps.zip us)) : DfM K (cAt mg x) m q st ps := by
  rw [cAt_eq hC]
  exact ⟨_, _, fun_mk l c k, ⟨a, i, k⟩, (fun_mk l c k).binds h⟩
structure DnM (P : Program) (w : World) (K : PySem.W.Frag) (mg : Str → Option Value) (base : Heap) (C : Addr) (k : Nat) (m : Str) (ps : List Str) (sp : Sp) : Prop where
  ex : ∃ f fd, FnG P w K mg base CX0 k f fd ps sp ∧ Meth K C m f ∧ Binds K fd ps []
theorem DfM.ok {P : Program} {w : World} {K : PySem.W.Frag} {mg : Str → Option Value} {base : Heap} {C : Addr} {m q : Str} {st : Stmt} {ps : List Str} {k : Nat} {sp : Sp} (D : DfM K C m q st ps)
    (h : ∀ f fd, Fun K m q st f fd → FnG P w K mg base CX0 k f fd ps sp) : DnM P w K mg base C k m ps sp := by
  obtain ⟨f, fd, F, mt, b⟩ := D.ex
  exact ⟨f, fd, h f fd F, mt, b⟩
/-- the maker of a class -/
structure DfI (K : PySem.W.Frag) (C : Addr) (q : Str) (st : Stmt) (ps : List Str) : Prop where
  ex : ∃ f fd, Fun K "__init__" q st f fd ∧ Mk K C f ∧ Binds K fd ps []
theorem DfI.of {K : PySem.W.Frag} {mg : Str → Option Value} {x q : Str} {st : Stmt} {ps : List Str} {f C : Addr} {oc : Value} {od an : Option Addr} {osl : Array (Option Value)} {kV doc pm cdv ct : Value} (hC : mg x = some (.ref C))
    (a : PySem.W.findIn K (.ref C) "__init__" = some (some (.ref f))) (i : PySem.W.isFn K (.ref f) = true)
    (l : K.lookup f = some ⟨oc, od, .func (PySem.W.fnOf "__init__" q (defArgs st) (defBody st) (defScope st) .none kV doc pm an cdv ct), osl⟩) (c : PySem.W.codeIn K cdv q = true) (k : PySem.W.keepIn K (.ref f) = true)
    (mk : PySem.W.makesIn K C = true) (kc : PySem.W.keepIn K (.ref C) = true)
    (h : ∀ (kV doc pm : Value) (an : Option Addr) (cdv ct : Value) (us : List Value), us.length = ps.length → bindArgs (PySem.W.fnOf "__init__" q (defArgs st) (defBody st) (defScope st) .none kV doc pm an cdv ct) ⟨us, []⟩ = pure (ps.zip us)) : DfI K (cAt mg x) q st ps := by
  rw [cAt_eq hC]
  exact ⟨_, _, fun_mk l c k, ⟨mk, a, i, kc⟩, (fun_mk l c k).binds h⟩
structure DnI (P : Program) (w : World) (K : PySem.W.Frag) (mg : Str → Option Value) (base : Heap) (C : Addr) (k : Nat) (ps : List Str) (sp : Sp) : Prop where
  ex : ∃ f fd, FnG P w K mg base CX0 k f fd ps sp ∧ Mk K C f ∧ Binds K fd ps []
theorem DfI.ok {P : Program} {w : World} {K : PySem.W.Frag} {mg : Str → Option Value} {base : Heap} {C : Addr} {q : Str} {st : Stmt} {ps : List Str} {k : Nat} {sp : Sp} (D : DfI K C q st ps)
    (h : ∀ f fd, Fun K "__init__" q st f fd → FnG P w K mg base CX0 k f fd ps sp) : DnI P w K mg base C k ps sp := by
  obtain ⟨f, fd, F, mt, b⟩ := D.ex
  exact ⟨f, fd, h f fd F, mt, b⟩
theorem RoomG.make {k : Nat} {A : Around} (r : RoomG (k + 1) A) (C : Addr) (us : List Value) (kw : List (Str × Value)) : RoomG k (A.under (.builtin "type.__call__" ⟨.ref C :: us, kw⟩)) :=
  ⟨r.room.make C us kw, r.idle⟩
section
variable {X : Cx} {k : Nat} {C : Addr} {ps : List Str} {sp : Sp} {x m : Str} {p pos apos : Pos} {e o : Expr} {es : List Expr} {ta : TE} {t : TA}
theorem pe_mG {pl : Sem Bool} (D : DnM X.prog X.w X.K X.mg X.base C k m ps sp) (c : Cls X.K C) (hr : RoomG k X.A) (he : PE X o ta) (ha : PA X (e :: es) t)
    (hst : starEach (e :: es) X.env = (false, eval e X.env) :: starEach es X.env := by rfl) (hpl : (backTo pos (starEach es X.env)).any (·.1) = false := by rfl)
    (ht : eval (.Call (.Attribute o m apos) (e :: es) [] pos) X.env = (do
      let ov ← eval o X.env
      standAt apos.atName
      let (f, first) ← holding [ov] (getMethod ov m pl)
      callWith pos f first (backTo pos (starEach (e :: es) X.env)) (backToKw pos (keywordEach [] X.env))) := by rfl) :
    PE X (.Call (.Attribute o m apos) (e :: es) [] pos) (tMeth C m sp [] E0 ta t) := by
  obtain ⟨f, fd, F, hm, hb⟩ := D.ex
  refine ⟨fun pins s σ H Q I h => ?_⟩
  refine PySem.W.methodCall_KW (pl := pl) (thn (he.run pins s σ H _ I h) fun u s1 ⟨x, H1, I1, rx, a, dx, fs, ex, ea, l, q⟩ => ?_) ht
  subst ex
  obtain rfl : u = Value.ref a := rx
  refine getmeth_ok I1 ea c hm l ?_
  refine PySem.W.callWith_K (first := [.ref a]) (h₀ := X.base) I.ok.mod.kin hm.kp (thn (ha.run pos pins s1 σ H1 _ I1 q) fun us s2 ⟨vs, H2, I2, r, q2⟩ => ⟨I2.kIn, ?_⟩) hst hpl
  have q' : sp (.ref a :: vs) H2 Q E0 := by
    have z : sp (.ref a :: (vs ++ [])) H2 Q E0 := q2
    rw [List.append_nil] at z
    exact z
  exact run_G (us := .ref a :: us) (vs := .ref a :: vs) F hr hb (fun _ _ z => z.elim) I2 (.cons rfl r) q'
theorem pe_mG0 {pl : Sem Bool} (D : DnM X.prog X.w X.K X.mg X.base C k m ps sp) (c : Cls X.K C) (hr : RoomG k X.A) (he : PE X o ta)
    (ht : eval (.Call (.Attribute o m apos) [] [] pos) X.env = (do
      let ov ← eval o X.env
      standAt apos.atName
      let (f, first) ← holding [ov] (getMethod ov m pl)
      callWith pos f first (backTo pos (starEach [] X.env)) (backToKw pos (keywordEach [] X.env))) := by rfl) :
    PE X (.Call (.Attribute o m apos) [] [] pos) (tMeth C m sp [] E0 ta tNil) := by
  obtain ⟨f, fd, F, hm, hb⟩ := D.ex
  refine ⟨fun pins s σ H Q I h => ?_⟩
  refine PySem.W.methodCall_KW (pl := pl) (thn (he.run pins s σ H _ I h) fun u s1 ⟨x, H1, I1, rx, a, dx, fs, ex, ea, l, q⟩ => ?_) ht
  subst ex
  obtain rfl : u = Value.ref a := rx
  refine getmeth_ok I1 ea c hm l ?_
  exact PySem.W.callWith_K0 (first := [.ref a]) I1.kIn hm.kp (run_G (us := [.ref a]) (vs := [.ref a]) F hr hb (fun _ _ z => z.elim) I1 (.cons rfl .nil) q)
theorem run_mkG {pins : List (Addr × Obj)} {σ : L2.St} {H : Hp} {s : Shared} {Q : VK} {us : List Value} {vs : List V} {f : Addr} {fd : FuncData} (M : Mk X.K C f) (F : FnG X.prog X.w X.K X.mg X.base CX0 k f fd ps sp) (hr : RoomG (k + 1) X.A) (hb : Binds X.K fd ps [])
    (I : Inv X pins σ H s) (r : Vals vs us)
    (h : ∀ x dx, H x = none → H dx = none → dx ≠ x → sp (.ref x :: vs) (upd (upd H dx (.own x)) x (.ins C dx [])) (fun v H2 => v = .non ∧ Q (.ref x) H2) E0) :
    wpAny (model X.prog X.w) X.A (call (.ref C) us) (EP X pins σ Q) X.xe s := by
  have hq := h (s.heap.objs.size + 1) s.heap.objs.size (I.hok.fresh (Nat.le_succ _)) (I.hok.fresh (Nat.le_refl _)) (Nat.ne_of_lt (Nat.lt_succ_self _))
  have I2 := Inv.made (C := C) I
  have r2 : Vals (V.ref (s.heap.objs.size + 1) :: vs) (Value.ref (s.heap.objs.size + 1) :: us) := .cons rfl r
  have hl : (Value.ref (s.heap.objs.size + 1) :: us).length = ps.length := by
    rw [← r2.length]
    exact F.arity _ _ _ _ hq
  have b := hb { s with heap := _ } (Value.ref (s.heap.objs.size + 1) :: us) I2.kIn (by rw [List.append_nil]; exact hl)
  rw [List.append_nil] at b
  refine wpAny_call (make_map (f := f) I.kIn M.makes M.init (beq_iff_eq.mp M.fn) (codeAny_mono (F.go (hr.make C us []) (I2.env0.make C us []) b r2 hq) fun r s' hq' => ?_))
  cases r with
  | error e => exact hq'.elim
  | ok fl =>
    match fl, hq' with
    | .ret u, hq' =>
      obtain ⟨v, H', I3, rv, ev, q3⟩ := I2.after hq'
      subst ev
      exact ⟨rv, ⟨V.ref (s.heap.objs.size + 1), H', I3, rfl, q3⟩⟩
theorem pe_mkG (D : DnI X.prog X.w X.K X.mg X.base C k ps sp) (hr : RoomG (k + 1) X.A) (hg : Gl X x) (hm : X.mg x = some (.ref C)) (ha : PA X (e :: es) t) (hdb : (x == ("__debug__" : Str)) = false := by decide)
    (he : starEach (e :: es) X.env = (false, eval e X.env) :: starEach es X.env := by rfl) (hpl : (backTo pos (starEach es X.env)).any (·.1) = false := by rfl) :
    PE X (.Call (.Name x p) (e :: es) [] pos) (tMake C sp [] E0 t) := by
  obtain ⟨f, fd, F, M, hb⟩ := D.ex
  refine ⟨fun pins s σ H Q I h => ?_⟩
  refine wpAny_Call_Name_kw (ld_glob I hg hm ?_ hdb)
  refine PySem.W.callWith_K (h₀ := X.base) I.ok.mod.kin M.kp (thn (ha.run pos pins s σ H _ I h) fun us s1 ⟨vs, H1, I1, r, q⟩ => ⟨I1.kIn, ?_⟩) he hpl
  exact run_mkG M F hr hb I1 r fun x dx h1 h2 h3 => by
    have z := q x dx h1 h2 h3
    rw [List.append_nil] at z
    exact z
/-- o.f, as a target -/
def gFld (K : PySem.W.Frag) (to : TE) (f : Str) : TG := fun v σ H Q => to σ H fun x H1 => ∃ a C dx fs, x = .ref a ∧ H1 a = some (.ins C dx fs) ∧ Cls K C ∧ NoAttr K C f ∧ fs.length < 1000 ∧ Q σ (upd H1 a (.ins C dx (putF f v fs)))
theorem pg_fld {f : Str} {to : TE} (ho : PE X o to) : PG X (.Attribute o f pos) (gFld X.K to f) := by
  refine ⟨fun pins s σ H v u Q I r h => ?_⟩
  rw [assign_Attribute]
  refine wpAny_bind (wpAny_holding (thn (ho.run pins s σ H _ I h) fun ov s1 ⟨x, H1, I1, rx, a, C, dx, fs, ex, ea, c, n, l, q⟩ => ?_))
  subst ex
  obtain rfl : ov = Value.ref a := rx
  refine wpAny_bind (wpAny_standAt ?_)
  refine wpAny_bind (wpAny_holding (setattr_ok I1 ea c n l r fun s2 I2 => ?_))
  exact wpAny_release ⟨σ, _, I2, q⟩
end
end Toy
namespace Toy
open PySem PySem.Spec PyProof.Rows L2
theorem hp_same {H H' : Hp} {a : Addr} {o : HO} (s : Same H H') (h : H a = some o) : H' a = some o := s _ _ h
theorem hp_at {H H' : Hp} {a : Addr} {o : HO} (h : H a = some o) (s : Same H H') : H' a = some o := s _ _ h
theorem sql_at {K : PySem.W.Frag} {H H' : Hp} {p : Addr} {xs : List V} (h : SqL K H p xs) (s : Same H H') : SqL K H' p xs := s.seq h
theorem sqt_at {K : PySem.W.Frag} {H H' : Hp} {a : Addr} {xs : List V} (h : SqT K H a xs) (s : Same H H') : SqT K H' a xs := same_tup s h
theorem same_bk {H M H' : Hp} (b : Same M H') (a : Same H M) : Same H H' := a.trans b
theorem hp_new {H : Hp} {l a : Addr} {o u : HO} (n : H l = none) (h : H a = some o) : upd H l u a = some o := same_new n u _ _ h
theorem s1k : 1000 ≤ sizeLine := by decide
theorem lk1000 {n : Nat} (h : n ≤ 1000) : n ≤ sizeLine := Nat.le_trans h s1k
theorem lt1000 {n : Nat} (h : n < 1000) : n < sizeLine := Nat.lt_of_lt_of_le h s1k
theorem tyL {K : PySem.W.Frag} {H : Hp} {p : Addr} {xs : List V} (h : H p = some (.lst xs)) : tyV K "list" (.ref p) H := .inl ⟨rfl, xs, SqL.of h⟩
theorem sq_same {K : PySem.W.Frag} {H H' : Hp} {p : Addr} {xs : List V} (s : Same H H') (h : SqL K H p xs) : SqL K H' p xs := s.seq h
theorem newS {H H' : Hp} {l : Addr} {o : HO} (e : upd H l o = H') (n : H l = none) : Same H H' := e ▸ same_new n o
theorem newO {H H' : Hp} {l : Addr} {o : HO} (e : upd H l o = H') : H' l = some o := e ▸ upd_same
end Toy
namespace Toy
open PySem L2
def top (i : Nat) : Stmt := PySem.Challenge.pw_joinedasks_k29_whole_told_ones_handed_on.main.body.getD i (.Pass ⟨0, 0, 0, 0⟩)
abbrev s_is_whole : Stmt := top 8
theorem sc_is_whole : FnScope ["thing"] ["thing"] (defScope s_is_whole) := ⟨rfl, rfl, rfl, by decide +kernel, rfl, by decide +kernel, by decide +kernel⟩
abbrev s_is_within : Stmt := top 9
theorem sc_is_within : FnScope ["thing", "least", "most"] ["thing", "least", "most"] (defScope s_is_within) := ⟨rfl, rfl, rfl, by decide +kernel, rfl, by decide +kernel, by decide +kernel⟩
abbrev s_is_row_of : Stmt := top 10
theorem sc_is_row_of : FnScope ["thing", "many"] ["thing", "many"] (defScope s_is_row_of) := ⟨rfl, rfl, rfl, by decide +kernel, rfl, by decide +kernel, by decide +kernel⟩
abbrev s_want_whole : Stmt := top 11
theorem sc_want_whole : FnScope ["thing"] ["thing"] (defScope s_want_whole) := ⟨rfl, rfl, rfl, by decide +kernel, rfl, by decide +kernel, by decide +kernel⟩
abbrev s_want_within : Stmt := top 12
theorem sc_want_within : FnScope ["thing", "least", "most"] ["thing", "least", "most"] (defScope s_want_within) := ⟨rfl, rfl, rfl, by decide +kernel, rfl, by decide +kernel, by decide +kernel⟩
abbrev s_want_from : Stmt := top 13
theorem sc_want_from : FnScope ["thing", "least"] ["thing", "least"] (defScope s_want_from) := ⟨rfl, rfl, rfl, by decide +kernel, rfl, by decide +kernel, by decide +kernel⟩
abbrev s_is_end : Stmt := top 16
theorem sc_is_end : FnScope ["thing"] ["thing"] (defScope s_is_end) := ⟨rfl, rfl, rfl, by decide +kernel, rfl, by decide +kernel, by decide +kernel⟩
abbrev s_is_deed : Stmt := top 17
theorem sc_is_deed : FnScope ["thing", "add", "low", "high"] ["thing"] (defScope s_is_deed) := ⟨rfl, rfl, rfl, by decide +kernel, rfl, by decide +kernel, by decide +kernel⟩
abbrev s_want_deed : Stmt := top 18
theorem sc_want_deed : FnScope ["thing"] ["thing"] (defScope s_want_deed) := ⟨rfl, rfl, rfl, by decide +kernel, rfl, by decide +kernel, by decide +kernel⟩
abbrev s_put_through : Stmt := top 19
theorem sc_put_through : FnScope ["deed", "value", "add", "low", "high", "found"] ["deed", "value"] (defScope s_put_through) := ⟨rfl, rfl, rfl, by decide +kernel, rfl, by decide +kernel, by decide +kernel⟩
abbrev s_whole_deed : Stmt := top 20
theorem sc_whole_deed : FnScope ["add", "low", "high"] ["add", "low", "high"] (defScope s_whole_deed) := ⟨rfl, rfl, rfl, by decide +kernel, rfl, by decide +kernel, by decide +kernel⟩
abbrev s_one_behind : Stmt := top 21
theorem sc_one_behind : FnScope ["one", "other", "low", "high"] ["one", "other"] (defScope s_one_behind) := ⟨rfl, rfl, rfl, by decide +kernel, rfl, by decide +kernel, by decide +kernel⟩
abbrev s_again : Stmt := top 22
theorem sc_again : FnScope ["deed", "many", "add", "low", "high", "far"] ["deed", "many"] (defScope s_again) := ⟨rfl, rfl, rfl, by decide +kernel, rfl, by decide +kernel, by decide +kernel⟩
abbrev s_is_board : Stmt := top 26
theorem sc_is_board : FnScope ["thing", "value"] ["thing"] (defScope s_is_board) := ⟨rfl, rfl, rfl, by decide +kernel, rfl, by decide +kernel, by decide +kernel⟩
abbrev s_want_board : Stmt := top 27
theorem sc_want_board : FnScope ["board"] ["board"] (defScope s_want_board) := ⟨rfl, rfl, rfl, by decide +kernel, rfl, by decide +kernel, by decide +kernel⟩
abbrev s_is_ask : Stmt := top 28
theorem sc_is_ask : FnScope ["board", "thing"] ["board", "thing"] (defScope s_is_ask) := ⟨rfl, rfl, rfl, by decide +kernel, rfl, by decide +kernel, by decide +kernel⟩
abbrev s_are_asks : Stmt := top 29
theorem sc_are_asks : FnScope ["board", "thing", "one"] ["board", "thing"] (defScope s_are_asks) := ⟨rfl, rfl, rfl, by decide +kernel, rfl, by decide +kernel, by decide +kernel⟩
abbrev s_want_asks : Stmt := top 30
theorem sc_want_asks : FnScope ["board", "asks"] ["board", "asks"] (defScope s_want_asks) := ⟨rfl, rfl, rfl, by decide +kernel, rfl, by decide +kernel, by decide +kernel⟩
abbrev s_played : Stmt := top 31
theorem sc_played : FnScope ["board", "asks", "values", "answers", "hand", "box", "deed"] ["board", "asks"] (defScope s_played) := ⟨rfl, rfl, rfl, by decide +kernel, rfl, by decide +kernel, by decide +kernel⟩
abbrev s_all_of : Stmt := top 32
theorem sc_all_of : FnScope ["board", "asks", "found", "hand", "box", "deed"] ["board", "asks"] (defScope s_all_of) := ⟨rfl, rfl, rfl, by decide +kernel, rfl, by decide +kernel, by decide +kernel⟩
abbrev s_ahead_of : Stmt := top 33
theorem sc_ahead_of : FnScope ["board", "asks", "made", "found", "hand", "box", "deed"] ["board", "asks"] (defScope s_ahead_of) := ⟨rfl, rfl, rfl, by decide +kernel, rfl, by decide +kernel, by decide +kernel⟩
abbrev s_want_many : Stmt := top 36
theorem sc_want_many : FnScope ["many"] ["many"] (defScope s_want_many) := ⟨rfl, rfl, rfl, by decide +kernel, rfl, by decide +kernel, by decide +kernel⟩
abbrev s_is_tree : Stmt := top 37
theorem sc_is_tree : FnScope ["thing", "many", "waiting", "come", "one"] ["thing", "many"] (defScope s_is_tree) := ⟨rfl, rfl, rfl, by decide +kernel, rfl, by decide +kernel, by decide +kernel⟩
abbrev s_want_deeds : Stmt := top 38
theorem sc_want_deeds : FnScope ["deeds", "one"] ["deeds"] (defScope s_want_deeds) := ⟨rfl, rfl, rfl, by decide +kernel, rfl, by decide +kernel, by decide +kernel⟩
abbrev s_want_tree : Stmt := top 39
theorem sc_want_tree : FnScope ["tree", "many"] ["tree", "many"] (defScope s_want_tree) := ⟨rfl, rfl, rfl, by decide +kernel, rfl, by decide +kernel, by decide +kernel⟩
abbrev s_folded_of : Stmt := top 40
theorem sc_folded_of : FnScope ["deeds", "tree"] ["deeds", "tree"] (defScope s_folded_of) := ⟨rfl, rfl, rfl, by decide +kernel, rfl, by decide +kernel, by decide +kernel⟩
abbrev s_folded : Stmt := top 41
theorem sc_folded : FnScope ["deeds", "tree"] ["deeds", "tree"] (defScope s_folded) := ⟨rfl, rfl, rfl, by decide +kernel, rfl, by decide +kernel, by decide +kernel⟩
abbrev s_shared_of : Stmt := top 42
theorem sc_shared_of : FnScope ["deeds", "tree", "value", "left", "one", "right", "other"] ["deeds", "tree", "value"] (defScope s_shared_of) := ⟨rfl, rfl, rfl, by decide +kernel, rfl, by decide +kernel, by decide +kernel⟩
abbrev s_shared_out : Stmt := top 43
theorem sc_shared_out : FnScope ["deeds", "tree", "value"] ["deeds", "tree", "value"] (defScope s_shared_out) := ⟨rfl, rfl, rfl, by decide +kernel, rfl, by decide +kernel, by decide +kernel⟩
abbrev s__law_pot : Stmt := top 45
theorem sc__law_pot : FnScope ["_law_script", "_law_k", "_law_primes", "_law_cell"] ["_law_script", "_law_k"] (defScope s__law_pot) := ⟨rfl, rfl, rfl, by decide +kernel, rfl, by decide +kernel, by decide +kernel⟩
abbrev s__law_draw : Stmt := top 46
theorem sc__law_draw : FnScope ["_law_pot_here", "_law_many", "_law_digit"] ["_law_pot_here", "_law_many"] (defScope s__law_draw) := ⟨rfl, rfl, rfl, by decide +kernel, rfl, by decide +kernel, by decide +kernel⟩
abbrev s__law_far : Stmt := top 47
theorem sc__law_far : FnScope ["_law_pot_here", "_law_far_here", "_law_k"] ["_law_pot_here"] (defScope s__law_far) := ⟨rfl, rfl, rfl, by decide +kernel, rfl, by decide +kernel, by decide +kernel⟩
abbrev s__law_number : Stmt := top 48
theorem sc__law_number : FnScope ["_law_pot_here", "_law_choice"] ["_law_pot_here"] (defScope s__law_number) := ⟨rfl, rfl, rfl, by decide +kernel, rfl, by decide +kernel, by decide +kernel⟩
abbrev s__law_deed : Stmt := top 49
theorem sc__law_deed : FnScope ["_law_pot_here", "_law_choice", "_law_add", "_law_one", "_law_other"] ["_law_pot_here"] (defScope s__law_deed) := ⟨rfl, rfl, rfl, by decide +kernel, rfl, by decide +kernel, by decide +kernel⟩
abbrev s__law_times : Stmt := top 50
theorem sc__law_times : FnScope ["_law_pot_here"] ["_law_pot_here"] (defScope s__law_times) := ⟨rfl, rfl, rfl, by decide +kernel, rfl, by decide +kernel, by decide +kernel⟩
abbrev s__law_told_deed : Stmt := top 51
theorem sc__law_told_deed : FnScope ["_law_pot_here", "_law_twice", "_law_found"] ["_law_pot_here"] (defScope s__law_told_deed) := ⟨rfl, rfl, rfl, by decide +kernel, rfl, by decide +kernel, by decide +kernel⟩
abbrev s__law_done : Stmt := top 52
theorem sc__law_done : FnScope ["_law_deed_here", "_law_value", "_law_add", "_law_low", "_law_high"] ["_law_deed_here", "_law_value"] (defScope s__law_done) := ⟨rfl, rfl, rfl, by decide +kernel, rfl, by decide +kernel, by decide +kernel⟩
abbrev s__law_behind : Stmt := top 53
theorem sc__law_behind : FnScope ["_law_one", "_law_other", "_law_low", "_law_high"] ["_law_one", "_law_other"] (defScope s__law_behind) := ⟨rfl, rfl, rfl, by decide +kernel, rfl, by decide +kernel, by decide +kernel⟩
abbrev s__law_played : Stmt := top 54
theorem sc__law_played : FnScope ["_law_board", "_law_asks", "_law_values", "_law_answers", "_law_hand", "_law_box", "_law_deed_here"] ["_law_board", "_law_asks"] (defScope s__law_played) := ⟨rfl, rfl, rfl, by decide +kernel, rfl, by decide +kernel, by decide +kernel⟩
abbrev s__law_together : Stmt := top 55
theorem sc__law_together : FnScope ["_law_board", "_law_asks", "_law_made", "_law_ahead", "_law_hand", "_law_box", "_law_deed_here", "_law_value"] ["_law_board", "_law_asks"] (defScope s__law_together) := ⟨rfl, rfl, rfl, by decide +kernel, rfl, by decide +kernel, by decide +kernel⟩
abbrev s__law_tree : Stmt := top 56
theorem sc__law_tree : FnScope ["_law_pot_here", "_law_first", "_law_many", "_law_choice", "_law_left"] ["_law_pot_here", "_law_first", "_law_many", "_law_choice"] (defScope s__law_tree) := ⟨rfl, rfl, rfl, by decide +kernel, rfl, by decide +kernel, by decide +kernel⟩
abbrev s__law_folds_right : Stmt := top 57
theorem sc__law_folds_right : FnScope ["_law_deeds", "_law_tree_here", "_law_value", "_law_whole", "_law_answers", "_law_here", "_law_deed_here"] ["_law_deeds", "_law_tree_here", "_law_value"] (defScope s__law_folds_right) := ⟨rfl, rfl, rfl, by decide +kernel, rfl, by decide +kernel, by decide +kernel⟩
abbrev s__law_right : Stmt := top 58
theorem sc__law_right : FnScope ["_law_pot_here", "_law_many", "_law_choice", "_law_board", "_law_places", "_law_deeds", "_law_asks", "_law_told", "_law_kept", "_law_tree_here", "_law_k", "_law_deed_here", "_law_place"] ["_law_pot_here"] (defScope s__law_right) := ⟨rfl, rfl, rfl, by decide +kernel, rfl, by decide +kernel, by decide +kernel⟩
abbrev s_law : Stmt := top 59
theorem sc_law : FnScope ["_law_script", "_law_k"] ["_law_script"] (defScope s_law) := ⟨rfl, rfl, rfl, by decide +kernel, rfl, by decide +kernel, by decide +kernel⟩
structure Bl (K : PySem.W.Frag) (mg : Str → Option Value) : Prop where
  all_ : mg "all" = none
  bool_ : mg "bool" = none
  int_ : mg "int" = none
  isinstance_ : mg "isinstance" = none
  len_ : mg "len" = none
  list_ : mg "list" = none
  max_ : mg "max" = none
  min_ : mg "min" = none
  range_ : mg "range" = none
  repr_ : mg "repr" = none
  tuple_ : mg "tuple" = none
  zip_ : mg "zip" = none
  LOOK_ : ∃ a, mg "LOOK" = some (.ref a) ∧ KTup K a [.int 0, .non, .non]
  MOST_BOXES_ : ∃ t, mg "MOST_BOXES" = some (.int (16) t)
  HANDS_ : ∃ t, mg "HANDS" = some (.int (16) t)
  MOST_DEEDS_ : ∃ t, mg "MOST_DEEDS" = some (.int (40) t)

/-! ### loops over any iterable: the forms one uses -/
theorem lc_it {I : It} {n : Nat} {g : TG} {tt : TT} {te : TE} {vs : List Nat} {σ : L2.St} {H1 : Hp} {D : Addr} {Qd : Hp → Prop} (Pv : Nat → Hp → Prop) (h0 : Pv 0 (upd H1 D (.lst [])))
    (hgo : ∀ i H, i < n → Pv i H → I.go i H) (hst : ∀ H, Pv n H → I.stop n H)
    (hs : ∀ i x H H', i < n → Pv i H → I.yld i H x H' → g x (wipe σ vs) H' fun σ2 H2 => wipe σ2 vs = wipe σ vs ∧ tt σ2 H2 fun b H3 =>
      if b = true then te σ2 H3 fun y H4 => ∃ acc, H4 D = some (.lst acc) ∧ acc.length < sizeLine ∧ Pv (i + 1) (upd H4 D (.lst (acc ++ [y]))) else Pv (i + 1) H3) (hd : ∀ H, Pv n H → Qd H) :
    ∃ W : Nat → Nat → Hp → Prop, (∃ m, W 0 m (upd H1 D (.lst []))) ∧ ∀ i m H, W i m H →
      (I.stop i H ∧ Qd H) ∨ (I.go i H ∧ ∃ Nx : Hp → Prop, (∀ H', Nx H' → ∃ m', m' < m ∧ W (i + 1) m' H') ∧ ∀ x H', I.yld i H x H' → g x (wipe σ vs) H' fun σ2 H2 => wipe σ2 vs = wipe σ vs ∧ tt σ2 H2 fun b H3 =>
        if b = true then te σ2 H3 fun y H4 => ∃ acc, H4 D = some (.lst acc) ∧ acc.length < sizeLine ∧ Nx (upd H4 D (.lst (acc ++ [y]))) else Nx H3) := by
  refine ⟨fun i m H => m = n - i ∧ i ≤ n ∧ Pv i H, ⟨n, by simp, Nat.zero_le _, h0⟩, ?_⟩
  rintro i m H ⟨rfl, hi, p⟩
  by_cases hlt : i < n
  · exact .inr ⟨hgo i H hlt p, Pv (i + 1), fun H' p' => ⟨n - (i + 1), by omega, rfl, hlt, p'⟩, fun x H' y => hs i x H H' hlt p y⟩
  · have e : i = n := by omega
    subst e
    exact .inl ⟨hst H p, hd H p⟩
theorem for_it {I : It} {n : Nat} {g : TG} {tb : TS} {D : Ends} {σ : L2.St} {H : Hp} (Pv : Nat → L2.St → Hp → Prop) (h0 : Pv 0 σ H)
    (hgo : ∀ i σ H, i < n → Pv i σ H → I.go i H) (hst : ∀ σ H, Pv n σ H → I.stop n H)
    (hs : ∀ i x σ H H', i < n → Pv i σ H → I.yld i H x H' → g x σ H' fun σ2 H2 => tb { D with nx := Pv (i + 1), ct := Pv (i + 1), bk := D.nx } σ2 H2) (hd : ∀ σ H, Pv n σ H → D.nx σ H) :
    ∃ W : Nat → Nat → L2.St → Hp → Prop, (∃ m, W 0 m σ H) ∧ ∀ i m σ H, W i m σ H →
      (I.stop i H ∧ D.nx σ H) ∨ (I.go i H ∧ ∃ N : L2.St → Hp → Prop, (∀ σ' H', N σ' H' → ∃ m', m' < m ∧ W (i + 1) m' σ' H') ∧ ∀ x H', I.yld i H x H' → g x σ H' fun σ2 H2 => tb { D with nx := N, ct := N, bk := D.nx } σ2 H2) := by
  refine ⟨fun i m σ H => m = n - i ∧ i ≤ n ∧ Pv i σ H, ⟨n, by simp, Nat.zero_le _, h0⟩, ?_⟩
  rintro i m σ H ⟨rfl, hi, p⟩
  by_cases hlt : i < n
  · exact .inr ⟨hgo i σ H hlt p, Pv (i + 1), fun σ' H' p' => ⟨n - (i + 1), by omega, rfl, hlt, p'⟩, fun x H' y => hs i x σ H H' hlt p y⟩
  · have e : i = n := by omega
    subst e
    exact .inl ⟨hst σ H p, hd σ H p⟩
/-- [.. for i, x in enumerate(xs)] -/
theorem lc_enum {K : PySem.W.Frag} {a : Addr} {xs : List V} {g : TG} {tt : TT} {te : TE} {vs : List Nat} {σ : L2.St} {H1 : Hp} {D : Addr} {Qd : Hp → Prop} (Pv : Nat → Hp → Prop) (h0 : Pv 0 (upd H1 D (.lst []))) (hl : ∀ i H, i ≤ xs.length → Pv i H → SqL K H a xs)
    (hs : ∀ (i : Nat) x (T : Addr) H, xs[i]? = some x → Pv i H → H T = none → g (.ref T) (wipe σ vs) (upd H T (.tup [.int i, x])) fun σ2 H2 => wipe σ2 vs = wipe σ vs ∧ tt σ2 H2 fun b H3 =>
      if b = true then te σ2 H3 fun y H4 => ∃ acc, H4 D = some (.lst acc) ∧ acc.length < sizeLine ∧ Pv (i + 1) (upd H4 D (.lst (acc ++ [y]))) else Pv (i + 1) H3) (hd : ∀ H, Pv xs.length H → Qd H) :
    ∃ W : Nat → Nat → Hp → Prop, (∃ m, W 0 m (upd H1 D (.lst []))) ∧ ∀ i m H, W i m H →
      ((Ite K a).stop i H ∧ Qd H) ∨ ((Ite K a).go i H ∧ ∃ Nx : Hp → Prop, (∀ H', Nx H' → ∃ m', m' < m ∧ W (i + 1) m' H') ∧ ∀ x H', (Ite K a).yld i H x H' → g x (wipe σ vs) H' fun σ2 H2 => wipe σ2 vs = wipe σ vs ∧ tt σ2 H2 fun b H3 =>
        if b = true then te σ2 H3 fun y H4 => ∃ acc, H4 D = some (.lst acc) ∧ acc.length < sizeLine ∧ Nx (upd H4 D (.lst (acc ++ [y]))) else Nx H3) := by
  refine lc_it (I := Ite K a) (n := xs.length) Pv h0 (fun i H hi p => ⟨xs, xs[i], hl i H (Nat.le_of_lt hi) p, List.getElem?_eq_getElem hi⟩) (fun H p => ⟨xs, hl _ H (Nat.le_refl _) p, Nat.le_refl _⟩) ?_ hd
  rintro i x H H' hi p ⟨T, z, rfl, hT, rfl, hz⟩
  exact hs i z T H (hz xs (hl i H (Nat.le_of_lt hi) p)) p hT
theorem for_enum' {K : PySem.W.Frag} {a : Addr} {xs : List V} {g : TG} {tb : TS} {D : Ends} {σ : L2.St} {H : Hp} (Pv : Nat → L2.St → Hp → Prop) (h0 : Pv 0 σ H) (hl : ∀ i σ H, i ≤ xs.length → Pv i σ H → SqL K H a xs)
    (hs : ∀ (i : Nat) x (T : Addr) σ H, xs[i]? = some x → Pv i σ H → H T = none → g (.ref T) σ (upd H T (.tup [.int i, x])) fun σ2 H2 => tb { D with nx := Pv (i + 1), ct := Pv (i + 1), bk := D.nx } σ2 H2) (hd : ∀ σ H, Pv xs.length σ H → D.nx σ H) :
    ∃ W : Nat → Nat → L2.St → Hp → Prop, (∃ m, W 0 m σ H) ∧ ∀ i m σ H, W i m σ H →
      ((Ite K a).stop i H ∧ D.nx σ H) ∨ ((Ite K a).go i H ∧ ∃ N : L2.St → Hp → Prop, (∀ σ' H', N σ' H' → ∃ m', m' < m ∧ W (i + 1) m' σ' H') ∧ ∀ x H', (Ite K a).yld i H x H' → g x σ H' fun σ2 H2 => tb { D with nx := N, ct := N, bk := D.nx } σ2 H2) := by
  refine for_it (I := Ite K a) (n := xs.length) Pv h0 (fun i σ H hi p => ⟨xs, xs[i], hl i σ H (Nat.le_of_lt hi) p, List.getElem?_eq_getElem hi⟩) (fun σ H p => ⟨xs, hl _ σ H (Nat.le_refl _) p, Nat.le_refl _⟩) ?_ hd
  rintro i x σ H H' hi p ⟨T, z, rfl, hT, rfl, hz⟩
  exact hs i z T σ H (hz xs (hl i σ H (Nat.le_of_lt hi) p)) p hT
/-- xs[i] of a list, as a value -/
theorem get_listI {X : Cx} : PGet X (rIxL X.K) := by
  intro pins s σ H o i ov iv Q I ro ri h
  obtain ⟨p, xs, k, z, rfl, rfl, hq, he, q⟩ := h
  cases ro
  obtain ⟨t, rfl⟩ := ri
  obtain ⟨its, r, pl, hz⟩ := I.list hq
  obtain ⟨j, h1, h2, h3, h4, h5⟩ := atI_get he
  obtain ⟨w, ew, rw'⟩ := r.get h2
  have hl := r.length
  have hn := line63
  have fin : EP X pins σ Q w s := ⟨z, H, I, rw', q⟩
  by_cases h0 : 0 ≤ k
  · have hj : k.toNat = j := by
      rw [seqIndex_of h0 h5] at h1
      exact Option.some.inj h1
    exact wpAny_getItem_list pl.isList h0 (by omega) (by rw [hj]; simpa using ew) fin
  · have hj : (k + (its.toArray.size : Int)).toNat = j := by
      rw [seqIndex_neg (by omega) h4] at h1
      rw [List.size_toArray, ← hl]
      exact Option.some.inj h1
    exact wpAny_getItem_list_neg pl.isList (by omega) (by rw [List.size_toArray] <;> omega) (by omega) (by rw [hj]; simpa using ew) fin
end Toy
/-! ### enumerate of a tuple -/
namespace PySem
open Sem (wp)
open AutoSeq1 (wpAny_loadPart')
theorem meets_enumerate_newTu (l : Addr) (items : Array Value) (n : Nat) (dct : Option Addr) (sl : Array (Option Value)) :
    Meets (Builtin.«enumerate.__new__» ⟨[.type "enumerate", .ref l], []⟩) (fun _ R s => s.heap.get? l = some { cls := .type "tuple", dict := dct, data := .seq items n, slots := sl } ∧
      R (.ok (.ret (.ref (s.heap.push { cls := .type "tuple_iterator", data := .fields #[.ref l, .int 0 0] }).objs.size)))
        { s with heap := (s.heap.push { cls := .type "tuple_iterator", data := .fields #[.ref l, .int 0 0] }).push { cls := .type "enumerate", data := .fields #[.none, .bool false, .ref s.heap.objs.size, rawInt 0, .none, .none] } }) :=
  .of_wp fun prog w A R s h => by
    obtain ⟨hp, g, d, tk, os⟩ := s; obtain ⟨hl, h⟩ := h
    have hsub := sub_enumerate
    have hL : Heap.IsTuple (Shared.heap ⟨hp, g, d, tk, os⟩) l items := ⟨_, hl, rfl, n, rfl⟩
    wp_walk using wpAny_loadPart' hl
    refine wpAny_stack_any fun st => wpAny_pure ?_
    split
    · rename_i c _ _ _ _ _
      cases (c == Value.type "enumerate")
      · wp_walk using wpAny_loadPart' hl, wpAny_pyIter_tuple hL
        exact ⟨_, rfl, h⟩
      · wp_walk using wpAny_loadPart' hl, wpAny_pyIter_tuple hL
        exact ⟨_, rfl, h⟩
    · wp_walk using wpAny_loadPart' hl, wpAny_pyIter_tuple hL
      exact ⟨_, rfl, h⟩
theorem call_enumerate_tup {prog : Program} {w : World} {A : Around} {E : Value → Shared → Prop} {s : Shared} {l : Addr} {items : Array Value} {Q : Value → Shared → Prop} (hL : s.heap.IsTuple l items)
    (h : ∀ h', IsEnum h' (s.heap.objs.size + 1) s.heap.objs.size 0 .none → h'.IsTupleIter s.heap.objs.size l 0 → h'.objs.size = s.heap.objs.size + 2 →
      (∀ b o, s.heap.get? b = some o → h'.get? b = some o) → Q (.ref (s.heap.objs.size + 1)) { s with heap := h' }) :
    wpAny (model prog w) A (call (.type "enumerate") [.ref l]) Q E s := by
  obtain ⟨⟨c, dct, dt, sl⟩, hl, hc, n, hd⟩ := hL
  replace hc : c = .type "tuple" := hc
  replace hd : dt = .seq items n := hd
  subst hc hd
  refine callType_new F.called_enumerate (by decide) (F.typeCall_enumerate_1 _) (F.newCall_enumerate_1 _) (fun obj => F.args_object_init_2 obj _) F.entry_enumerate_new
    (meets_enumerate_newTu l items n dct sl) ⟨hl, ?_⟩
  have hz : (s.heap.push { cls := .type "tuple_iterator", data := .fields #[.ref l, .int 0 0] }).objs.size = s.heap.objs.size + 1 := Heap.size_push ..
  show _ ∧ _
  rw [hz]
  have he : IsEnum ((s.heap.push { cls := .type "tuple_iterator", data := .fields #[.ref l, .int 0 0] }).push
      { cls := .type "enumerate", data := .fields #[.none, .bool false, .ref s.heap.objs.size, rawInt 0, .none, .none] }) (s.heap.objs.size + 1) s.heap.objs.size 0 .none := by
    have := Heap.get?_push_size (s.heap.push { cls := .type "tuple_iterator", data := .fields #[.ref l, .int 0 0] })
      (o := { cls := .type "enumerate", data := .fields #[.none, .bool false, .ref s.heap.objs.size, rawInt 0, .none, .none] }) rfl
    rw [hz] at this; exact this
  refine ⟨⟨_, he, rfl⟩, h _ he ⟨_, Heap.get?_push_of_some _ (Heap.get?_push_size _ rfl), rfl, rfl⟩ (by rw [Heap.size_push, hz]) fun b o x => Heap.get?_push_of_some _ (Heap.get?_push_of_some _ x)⟩
end PySem
namespace Toy
open PySem PySem.Spec PyProof.Rows L2
theorem tup_is {h : Heap} {a : Addr} {its : Array Value} (p : IsTup h a its) : h.IsTuple a its := p
/-- the tuple at a as it stands at each turn, each item in a new pair -/
def IteT (K : PySem.W.Frag) (a : Addr) : It :=
  ⟨fun i H => ∃ (xs : List V) (x : V), SqT K H a xs ∧ xs[i]? = some x, fun i H v H' => ∃ T x, v = .ref T ∧ H T = none ∧ H' = upd H T (.tup [.int (i : Nat), x]) ∧ ∀ xs, SqT K H a xs → xs[i]? = some x, fun i H => ∃ xs : List V, SqT K H a xs ∧ xs.length = i⟩
theorem turn_enumTu {P : Program} {w : World} {K : PySem.W.Frag} {elts : List Expr} {kk : Nat} {tpos : Pos} (a e it : Addr) (hai : a ≠ it) :
    Turn P w K (.Tuple elts kk tpos) (IteT K a) [e, it] e (fun i h => (∃ old, IsEnum h e it ((i : Nat) : Int) old) ∧ h.IsTupleIter it a i ∧ e ≠ it ∧ e ≠ a) where
  mem := by simp
  obj := fun i h st b hb => by
    obtain ⟨⟨old, he⟩, ⟨o, ho, hc, hd⟩, _⟩ := st
    have e' : b = e ∨ b = it := by simpa using hb
    rcases e' with z | z
    · rw [z]; exact ⟨_, he, fun v q => nomatch q⟩
    · rw [z]; exact ⟨o, ho, fun v q => by rw [hd] at q; cases q⟩
  keep := fun i h h' st k => let ⟨⟨old, he⟩, hi, hne⟩ := st; ⟨⟨old, k e (by simp) _ he⟩, hi.at fun o q => k it (by simp) o q, hne⟩
  item := by
    intro X hP hw hK hc i pins s σ H E I hf st hg
    subst hP hw hK
    obtain ⟨⟨old, he⟩, hit, hne, hea⟩ := st
    obtain ⟨xs, x, hq, hx⟩ := hg
    obtain ⟨its, rv, p, hz⟩ := I.tuple hq
    obtain ⟨u, hu, ru⟩ := rv.get hx
    have hel : e < s.heap.objs.size := Heap.lt_size he
    have hil : it < s.heap.objs.size := by obtain ⟨_, q, _⟩ := hit; exact Heap.lt_size q
    refine wpAny_pyNext_enum_itemD (Draws.tuple (show X.A.in1.handled = none from I.ok.hd hc) it a hai its.toArray) he ⟨hit, tup_is p⟩ (by have h1 := rv.length; have h2 := (List.getElem?_eq_some_iff.mp hx).1; rw [List.size_toArray]; omega) hne (by simp [hne, hea]) fun x' h' tk hP ho hst' hT hsz hk => ?_
    obtain ⟨hit', ht'⟩ := hst'
    have ex : x' = u := by
      have h1 : its[i]? = some x' := by simpa using hP
      rw [hu] at h1
      exact (Option.some.inj h1).symm
    subst ex
    refine ⟨_, rfl, wpAny_letOwnedTupleGo_enum (s := { s with heap := h', toks := tk + 1 }) ho fun h'' he' sb => ?_⟩
    have hT2 : h''.get? s.heap.objs.size = some { cls := .type "tuple", data := .seq #[.int i tk, x'] } := (sb.2 _ (Nat.ne_of_gt hel)).trans hT
    have new : ObjOk X.prog X.w (upd H s.heap.objs.size (.tup [.int (i : Nat), x])) h'' s.heap.objs.size (.tup [.int (i : Nat), x]) :=
      ⟨by show 2 ≤ sizeLine; decide, [.int i tk, x'], .cons ⟨_, rfl⟩ (.cons ru .nil), ⟨_, hT2, rfl, _, rfl⟩⟩
    have I1 : Inv X pins σ (upd H s.heap.objs.size (.tup [.int (i : Nat), x])) { s with heap := h'', toks := tk + 1 } :=
      I.turnedNew (ch := [e, it]) (fun b ob hb q => (sb.2 b (fun z => hb (by simp [z]))).trans (hk b ob (fun z => hb (by simp [z])) (fun z => hb (by simp [z])) q)) hf (Nat.le_refl _) new
    refine ⟨.ref s.heap.objs.size, _, I1, rfl, ⟨_, x, rfl, I.hok.fresh (Nat.le_refl _), rfl, fun ys hy => by rw [I.tuple_inj hy hq]; exact hx⟩, ⟨⟨x', ?_⟩, hit'.at fun o q => (sb.2 it (Ne.symm hne)).trans q, hne, hea⟩, fun b hb => ?_⟩
    · have e1 : ((i + 1 : Nat) : Int) = (i : Int) + 1 := by omega
      rw [e1]; exact he'
    · have hb' : b < s.heap.objs.size := by
        have e' : b = e ∨ b = it := by simpa using hb
        rcases e' with z | z
        · rw [z]; exact hel
        · rw [z]; exact hil
      rw [upd_ne (Nat.ne_of_lt hb')]
      exact (hf b hb).1
  done := by
    intro X hP hw hK hc i pins s σ H E I hf st hg
    subst hP hw hK
    obtain ⟨⟨old, he⟩, hit, hne, hea⟩ := st
    obtain ⟨xs, hq, hx⟩ := hg
    obtain ⟨its, rv, p, hz⟩ := I.tuple hq
    obtain ⟨f0, f1, f2, f3, f4, f5⟩ := hf it (by simp)
    have hl := rv.length
    have e2 : i = its.toArray.size := by rw [List.size_toArray]; omega
    rw [e2] at hit he
    exact wpAny_pyNext_enum_endD (Draws.tuple (show X.A.in1.handled = none from I.ok.hd hc) it a hai its.toArray) he ⟨hit, tup_is p⟩ fun h' eb => ⟨rfl, I.turned (t' := s.toks) (fun b o hb q => eb b o hb q) f0 f1 f3 f4 f5⟩
  self := fun A i s Q E st h => let ⟨⟨_, he⟩, _⟩ := st; wpAny_pyIter_enum he h
def iEnumT (K : PySem.W.Frag) (ta : TA) : TI := fun σ H R => ta σ H fun vs H1 => ∃ a xs, vs = [.ref a] ∧ SqT K H1 a xs ∧ R (IteT K a) H1
theorem pi_enumT {X : Cx} {e : Expr} {ta : TA} {p pos tpos : Pos} {elts : List Expr} {kk : Nat} (hg : Gl X "enumerate") (hm : X.mg "enumerate" = none) (ha : PA X [e] ta) (hs : starEach [e] X.env = [(false, eval e X.env)] := by rfl) :
    PI X (.Tuple elts kk tpos) (.Call (.Name "enumerate" p) [e] [] pos) (iEnumT X.K ta) := by
  refine ⟨fun pins s σ H R I h => ?_⟩
  refine Call_ (ld_blt I hg hm boot_enumerate (PyProof.Rows.callWith_type1 (thn (ha.run pos pins s σ H _ I h) fun us s1 ⟨vs, H1, I1, r1, q1⟩ => ?_) hs rfl))
  obtain ⟨a, xs, ex, hq, q⟩ := q1
  subst ex
  cases r1 with
  | cons r rr =>
    cases rr
    cases r
    obtain ⟨its, rv, p', hz⟩ := I1.tuple hq
    have hal : a < s1.heap.objs.size := by obtain ⟨o, ho, _⟩ := p'; exact Heap.lt_size ho
    refine call_enumerate_tup (tup_is p') fun h' he hit hsz hk => wpAny_pyIter_enum he ?_
    have I2 : Inv X pins σ H1 { s1 with heap := h' } := I1.kept (t' := s1.toks) hk
    refine ⟨s1.heap.objs.size + 1, [s1.heap.objs.size + 1, s1.heap.objs.size], _, _, H1, rfl, I2, turn_enumTu a (s1.heap.objs.size + 1) s1.heap.objs.size (Nat.ne_of_lt hal), ⟨⟨.none, he⟩, hit, Nat.succ_ne_self _, Nat.ne_of_gt (Nat.lt_succ_of_lt hal)⟩, fun b hb => ?_, q⟩
    have e' : b = s1.heap.objs.size + 1 ∨ b = s1.heap.objs.size := by simpa using hb
    have hle : s1.heap.objs.size ≤ b := by
      rcases e' with z | z
      · rw [z]; exact Nat.le_add_right _ _
      · rw [z]; exact Nat.le_refl _
    exact I1.fpOk hle (I1.hok.fresh hle)
theorem for_enumT {K : PySem.W.Frag} {a : Addr} {xs : List V} {g : TG} {tb : TS} {D : Ends} {σ : L2.St} {H : Hp} (Pv : Nat → L2.St → Hp → Prop) (h0 : Pv 0 σ H) (hl : ∀ i σ H, i ≤ xs.length → Pv i σ H → SqT K H a xs)
    (hs : ∀ (i : Nat) x (T : Addr) σ H, xs[i]? = some x → Pv i σ H → H T = none → g (.ref T) σ (upd H T (.tup [.int i, x])) fun σ2 H2 => tb { D with nx := Pv (i + 1), ct := Pv (i + 1), bk := D.nx } σ2 H2) (hd : ∀ σ H, Pv xs.length σ H → D.nx σ H) :
    ∃ W : Nat → Nat → L2.St → Hp → Prop, (∃ m, W 0 m σ H) ∧ ∀ i m σ H, W i m σ H →
      ((IteT K a).stop i H ∧ D.nx σ H) ∨ ((IteT K a).go i H ∧ ∃ N : L2.St → Hp → Prop, (∀ σ' H', N σ' H' → ∃ m', m' < m ∧ W (i + 1) m' σ' H') ∧ ∀ x H', (IteT K a).yld i H x H' → g x σ H' fun σ2 H2 => tb { D with nx := N, ct := N, bk := D.nx } σ2 H2) := by
  refine ⟨fun i m σ H => m = xs.length - i ∧ i ≤ xs.length ∧ Pv i σ H, ⟨xs.length, by simp, Nat.zero_le _, h0⟩, ?_⟩
  rintro i m σ H ⟨rfl, hi, p⟩
  have q := hl i σ H hi p
  by_cases hlt : i < xs.length
  · refine .inr ⟨⟨xs, xs[i], q, List.getElem?_eq_getElem hlt⟩, Pv (i + 1), fun σ' H' p' => ⟨xs.length - (i + 1), by omega, rfl, hlt, p'⟩, fun x H' y => ?_⟩
    obtain ⟨T, z, rfl, hT, rfl, hz⟩ := y
    exact hs i z T σ H (hz xs q) p hT
  · have e : i = xs.length := by omega
    subst e
    exact .inl ⟨⟨xs, q, rfl⟩, hd σ H p⟩
end Toy
/-! ### zip of a tuple and a list, in a for or a comprehension -/
namespace PySem
section
variable {prog : Program} {w : World} {A : Around} {E : Value → Shared → Prop} {s : Shared}
/-- the second value drawn, the pair handed out -/
theorem zipM_out {z TI TO : Addr} {x y : Value} {Q : Value → Shared → Prop} (nz : TO ≠ z) (hz : IsZip s.heap z TI TO .ellipsis) (hTO : IsPair s.heap TO x y)
    (hQ : ∀ h', IsZip h' z TI TO (rawInt s.heap.objs.size) → IsPair h' s.heap.objs.size x y → h'.objs.size = s.heap.objs.size + 1 → (∀ c o, c ≠ z → s.heap.get? c = some o → h'.get? c = some o) → Q (.ref s.heap.objs.size) { s with heap := h' }) :
    wpAny (model prog w) A (newTuple [x, y] >>= fun T => Builtin.SmallTypes.ownedTupleHandOut (.ref z) T >>= fun _ => ret T) (fun fin s' => ∃ v, fin = .done (.ret v) ∧ Q v s') E s := by
  have zl : z < s.heap.objs.size := Heap.lt_size hz
  refine wpAny_bind (wpAny_newTuple ?_)
  refine wpAny_bind ?_
  unfold Builtin.SmallTypes.ownedTupleHandOut
  have z6 : IsZip (s.heap.push { cls := .type "tuple", data := .seq #[x, y] }) z TI TO .ellipsis := Heap.get?_push_of_some _ hz
  refine wpAny_bind (wpAny_setField_rec z6 (by simp) fun h7 z7 s7 => ?_)
  replace z7 : IsZip h7 z TI TO (rawInt s.heap.objs.size) := z7
  refine wpAny_setField_rec z7 (by simp) fun h8 z8 s8 => ?_
  replace z8 : IsZip h8 z TI TO (rawInt s.heap.objs.size) := z8
  refine wpAny_pure ⟨_, rfl, hQ h8 z8 ?_ ?_ fun c o n e => s8.extBut _ _ n (s7.extBut _ _ n (Heap.get?_push_of_some _ e))⟩
  · exact s8.extBut _ _ (Nat.ne_of_gt zl) (s7.extBut _ _ (Nat.ne_of_gt zl) (Heap.get?_push_size _ rfl))
  · rw [s8.1, s7.1, Heap.size_push]
theorem zipM_item {z TI TO i1 i2 l1 l2 : Addr} {k1 k2 : Nat} {xs ys : Array Value} {x y a b : Value} {Q : Value → Shared → Prop} (D : ZipApart z TI TO i1 i2 l1 l2)
    (hz : IsZip s.heap z TI TO .none) (hTI : IsPair s.heap TI (.ref i1) (.ref i2)) (hTO : IsPair s.heap TO a b)
    (h1 : s.heap.IsTupleIter i1 l1 k1) (h2 : s.heap.IsListIter i2 l2 k2) (t1 : s.heap.IsTuple l1 xs) (t2 : s.heap.IsList l2 ys) (hx : xs[k1]? = some x) (hy : ys[k2]? = some y)
    (hQ : ∀ h', IsZip h' z TI TO (rawInt s.heap.objs.size) → IsPair h' TO x y → h'.IsTupleIter i1 l1 (k1 + 1) → h'.IsListIter i2 l2 (k2 + 1) → IsPair h' s.heap.objs.size x y → h'.objs.size = s.heap.objs.size + 1 →
      (∀ c o, c ≠ z → c ≠ TO → c ≠ i1 → c ≠ i2 → s.heap.get? c = some o → h'.get? c = some o) → Q (.ref s.heap.objs.size) { s with heap := h' }) :
    wpAny (model prog w) A (Builtin.«zip.__next__» ⟨[.ref z], []⟩) (fun fin s' => ∃ v, fin = .done (.ret v) ∧ Q v s') E s := by
  show wpAny _ _ (field (.ref z) 2 >>= _) _ _ _
  refine wpAny_bind (wpAny_field hz rfl (x := .bool false) rfl ?_)
  show wpAny _ _ (field (.ref z) 3 >>= _) _ _ _
  refine wpAny_bind (wpAny_field hz rfl (x := .ref TI) rfl ?_)
  refine wpAny_bind (wpAny_seqItems hTI rfl ?_)
  show wpAny _ _ (Builtin.SmallTypes.ownedTupleIsFree (.ref z) >>= _) _ _ _
  refine wpAny_bind ?_
  unfold Builtin.SmallTypes.ownedTupleIsFree
  refine wpAny_bind (wpAny_field hz rfl (x := .none) rfl (wpAny_pure ?_))
  simp only [if_true]
  refine wpAny_bind (wpAny_rule ?_)
  refine wpAny_bind (wpAny_field hz rfl (x := .ref TO) rfl ?_)
  refine wpAny_bind (wpAny_setField_rec hz (by simp) fun g1 z1 e1 => ?_)
  replace z1 : IsZip g1 z TI TO .ellipsis := z1
  refine wpAny_bind ?_
  simp only [List.zipIdx_cons, List.zipIdx_nil, List.forIn_cons, List.forIn_nil]
  refine wpAny_bind (wpAny_bind (wpAny_onRaise ?_))
  show wpAny _ _ (Builtin.SmallTypes.nextOf (.ref i1) >>= _) _ _ _
  refine wpAny_bind (RZ.nextOf_tuple_item (h1.extBut e1.extBut D.i1z) (t1.extBut e1.extBut D.l1z) hx fun g2 p2 e2 => wpAny_pure ?_)
  have o2 : IsPair g2 TO a b := e2.extBut _ _ D.TOi1 (e1.extBut _ _ D.TOz hTO)
  refine wpAny_bind (wpAny_seqItems o2 rfl ?_)
  refine wpAny_bind (wpAny_updateSeq_pair o2 fun g3 o3 e3 => ?_)
  replace o3 : IsPair g3 TO x b := o3
  refine wpAny_bind (wpAny_letGo (wpAny_pure ?_))
  refine wpAny_bind (wpAny_bind (wpAny_onRaise ?_))
  show wpAny _ _ (Builtin.SmallTypes.nextOf (.ref i2) >>= _) _ _ _
  refine wpAny_bind (wpAny_nextOf_list_item (((h2.extBut e1.extBut D.i2z).extBut e2.extBut D.i12.symm).extBut e3.extBut D.TOi2.symm)
    (((t2.extBut e1.extBut D.l2z).extBut e2.extBut D.l2i1).extBut e3.extBut D.l2TO) hy fun g4 p4 e4 => wpAny_pure ?_)
  have o4 : IsPair g4 TO x b := e4.extBut _ _ D.TOi2 o3
  refine wpAny_bind (wpAny_seqItems o4 rfl ?_)
  refine wpAny_bind (wpAny_updateSeq_pair o4 fun g5 o5 e5 => ?_)
  replace o5 : IsPair g5 TO x y := o5
  refine wpAny_bind (wpAny_letGo (wpAny_pure (wpAny_pure ?_)))
  refine wpAny_bind (wpAny_seqItems o5 rfl ?_)
  have zz : IsZip g5 z TI TO .ellipsis := e5.extBut _ _ D.TOz.symm (e4.extBut _ _ D.i2z.symm (e3.extBut _ _ D.TOz.symm (e2.extBut _ _ D.i1z.symm z1)))
  have ez : g5.objs.size = s.heap.objs.size := by rw [e5.1, e4.1, e3.1, e2.1, e1.1]
  have kk : ∀ c o, c ≠ z → c ≠ TO → c ≠ i1 → c ≠ i2 → s.heap.get? c = some o → g5.get? c = some o := fun c o c1 c2 c3 c4 e =>
    e5.extBut _ _ c2 (e4.extBut _ _ c4 (e3.extBut _ _ c2 (e2.extBut _ _ c3 (e1.extBut _ _ c1 e))))
  have q1 : g5.IsTupleIter i1 l1 (k1 + 1) := ((p2.extBut e3.extBut D.TOi1.symm).extBut e4.extBut D.i12).extBut e5.extBut D.TOi1.symm
  have q2 : g5.IsListIter i2 l2 (k2 + 1) := p4.extBut e5.extBut D.TOi2.symm
  refine zipM_out (s := { s with heap := g5 }) D.TOz zz o5 fun h' a1 a2 a3 a4 => ?_
  simp only [ez] at a1 a2 a3 ⊢
  exact hQ h' a1 (a4 _ _ D.TOz o5) (q1.at fun o e => a4 _ o D.i1z e) (q2.at fun o e => a4 _ o D.i2z e) a2 a3 fun c o c1 c2 c3 c4 e => a4 c o c1 (kk c o c1 c2 c3 c4 e)
theorem zipM_end {z TI TO i1 i2 l1 l2 : Addr} {k1 k2 : Nat} {xs ys : Array Value} {a b : Value} {Q : Fin → Shared → Prop} (hh : A.handled = none) (D : ZipApart z TI TO i1 i2 l1 l2)
    (hz : IsZip s.heap z TI TO .none) (hTI : IsPair s.heap TI (.ref i1) (.ref i2)) (hTO : IsPair s.heap TO a b)
    (h1 : s.heap.IsTupleIter i1 l1 k1) (h2 : s.heap.IsListIter i2 l2 k2) (t1 : s.heap.IsTuple l1 xs) (t2 : s.heap.IsList l2 ys) (hend : xs[k1]? = none ∨ ys[k2]? = none)
    (hE : ∀ h' e, (∀ c o, c ≠ z → c ≠ TO → c ≠ i1 → c ≠ i2 → s.heap.get? c = some o → h'.get? c = some o) → (∃ o, h'.get? e = some o ∧ o.cls = .type "StopIteration") → E (.ref e) { s with heap := h' }) :
    wpAny (model prog w) A (Builtin.«zip.__next__» ⟨[.ref z], []⟩) Q E s := by
  show wpAny _ _ (field (.ref z) 2 >>= _) _ _ _
  refine wpAny_bind (wpAny_field hz rfl (x := .bool false) rfl ?_)
  show wpAny _ _ (field (.ref z) 3 >>= _) _ _ _
  refine wpAny_bind (wpAny_field hz rfl (x := .ref TI) rfl ?_)
  refine wpAny_bind (wpAny_seqItems hTI rfl ?_)
  show wpAny _ _ (Builtin.SmallTypes.ownedTupleIsFree (.ref z) >>= _) _ _ _
  refine wpAny_bind ?_
  unfold Builtin.SmallTypes.ownedTupleIsFree
  refine wpAny_bind (wpAny_field hz rfl (x := .none) rfl (wpAny_pure ?_))
  simp only [if_true]
  refine wpAny_bind (wpAny_rule ?_)
  refine wpAny_bind (wpAny_field hz rfl (x := .ref TO) rfl ?_)
  refine wpAny_bind (wpAny_setField_rec hz (by simp) fun g1 z1 e1 => ?_)
  replace z1 : IsZip g1 z TI TO .ellipsis := z1
  refine wpAny_bind ?_
  simp only [List.zipIdx_cons, List.zipIdx_nil, List.forIn_cons, List.forIn_nil]
  refine wpAny_bind (wpAny_bind (wpAny_onRaise ?_))
  show wpAny _ _ (Builtin.SmallTypes.nextOf (.ref i1) >>= _) _ _ _
  -- one of the two is done: its error goes out
  have out : ∀ (g : Heap) (e : Addr), IsZip g z TI TO .ellipsis → (∃ o, g.get? e = some o ∧ o.cls = .type "StopIteration") → (∀ c o, c ≠ z → c ≠ TO → c ≠ i1 → c ≠ i2 → s.heap.get? c = some o → g.get? c = some o) →
      wpAny (model prog w) A (setField (.ref z) 0 .none) (fun _ s' => E (.ref e) s') E { s with heap := g } := by
    rintro g e hg ⟨o, ho, hc⟩ hk
    have ne : e ≠ z := fun q => by subst q; rw [hg] at ho; cases ho; simp at hc
    exact wpAny_setField_rec hg (by simp) fun g' _ hs => hE g' e (fun c o c1 c2 c3 c4 q => hs.extBut _ _ c1 (hk c o c1 c2 c3 c4 q)) ⟨o, hs.extBut _ _ ne ho, hc⟩
  cases hx : xs[k1]? with
  | none =>
    refine wpAny_bind (RZ.nextOf_tuple_end hh (h1.extBut e1.extBut D.i1z) (t1.extBut e1.extBut D.l1z) hx fun g2 e e2 he => ?_)
    exact out g2 e (e2 _ _ D.i1z.symm z1) he fun c o c1 _ c3 _ q => e2 _ _ c3 (e1.extBut _ _ c1 q)
  | some x =>
    have hy : ys[k2]? = none := by
      rcases hend with h | h
      · rw [hx] at h; cases h
      · exact h
    refine wpAny_bind (RZ.nextOf_tuple_item (h1.extBut e1.extBut D.i1z) (t1.extBut e1.extBut D.l1z) hx fun g2 p2 e2 => wpAny_pure ?_)
    have o2 : IsPair g2 TO a b := e2.extBut _ _ D.TOi1 (e1.extBut _ _ D.TOz hTO)
    refine wpAny_bind (wpAny_seqItems o2 rfl ?_)
    refine wpAny_bind (wpAny_updateSeq_pair o2 fun g3 o3 e3 => ?_)
    refine wpAny_bind (wpAny_letGo (wpAny_pure ?_))
    refine wpAny_bind (wpAny_bind (wpAny_onRaise ?_))
    show wpAny _ _ (Builtin.SmallTypes.nextOf (.ref i2) >>= _) _ _ _
    refine wpAny_bind (wpAny_nextOf_list_end hh (((h2.extBut e1.extBut D.i2z).extBut e2.extBut D.i12.symm).extBut e3.extBut D.TOi2.symm)
      (((t2.extBut e1.extBut D.l2z).extBut e2.extBut D.l2i1).extBut e3.extBut D.l2TO) hy fun g4 e e4 he => ?_)
    exact out g4 e (e4 _ _ D.i2z.symm (e3.extBut _ _ D.TOz.symm (e2.extBut _ _ D.i1z.symm z1))) he fun c o c1 c2 c3 c4 q => e4 _ _ c4 (e3.extBut _ _ c2 (e2.extBut _ _ c3 (e1.extBut _ _ c1 q)))
theorem zipM_next {z TI TO i1 i2 l1 l2 : Addr} {k1 k2 : Nat} {xs ys : Array Value} {x y a b : Value} {Q : Option Value → Shared → Prop} (D : ZipApart z TI TO i1 i2 l1 l2)
    (hz : IsZip s.heap z TI TO .none) (hTI : IsPair s.heap TI (.ref i1) (.ref i2)) (hTO : IsPair s.heap TO a b)
    (h1 : s.heap.IsTupleIter i1 l1 k1) (h2 : s.heap.IsListIter i2 l2 k2) (t1 : s.heap.IsTuple l1 xs) (t2 : s.heap.IsList l2 ys) (hx : xs[k1]? = some x) (hy : ys[k2]? = some y)
    (hQ : ∀ h', IsZip h' z TI TO (rawInt s.heap.objs.size) → IsPair h' TO x y → h'.IsTupleIter i1 l1 (k1 + 1) → h'.IsListIter i2 l2 (k2 + 1) → IsPair h' s.heap.objs.size x y → h'.objs.size = s.heap.objs.size + 1 →
      (∀ c o, c ≠ z → c ≠ TO → c ≠ i1 → c ≠ i2 → s.heap.get? c = some o → h'.get? c = some o) → Q (some (.ref s.heap.objs.size)) { s with heap := h' }) :
    wpAny (model prog w) A (pyNext (.ref z)) Q E s := by
  have hT : s.TypeIs (.ref z) "zip" := ⟨_, hz, rfl⟩
  unfold pyNext
  exact wpAny_bind (wpAny_attempt (wpAny_callSpecial?_slot (name := Str.ofString "__next__") hT F.slot_zip_next
    (wpAny_call_entry F.slot_zip_next hT F.entry_zip_next
      (zipM_item D hz hTI hTO h1 h2 t1 t2 hx hy fun h' a1 a2 a3 a4 a5 a6 a7 => wpAny_pure (hQ h' a1 a2 a3 a4 a5 a6 a7)) (F.args_zip_next_1 _))))
theorem zipM_done {z TI TO i1 i2 l1 l2 : Addr} {k1 k2 : Nat} {xs ys : Array Value} {a b : Value} {Q : Option Value → Shared → Prop} (hh : A.handled = none) (D : ZipApart z TI TO i1 i2 l1 l2)
    (hz : IsZip s.heap z TI TO .none) (hTI : IsPair s.heap TI (.ref i1) (.ref i2)) (hTO : IsPair s.heap TO a b)
    (h1 : s.heap.IsTupleIter i1 l1 k1) (h2 : s.heap.IsListIter i2 l2 k2) (t1 : s.heap.IsTuple l1 xs) (t2 : s.heap.IsList l2 ys) (hend : xs[k1]? = none ∨ ys[k2]? = none)
    (hQ : ∀ h', (∀ c o, c ≠ z → c ≠ TO → c ≠ i1 → c ≠ i2 → s.heap.get? c = some o → h'.get? c = some o) → Q none { s with heap := h' }) : wpAny (model prog w) A (pyNext (.ref z)) Q E s := by
  have hT : s.TypeIs (.ref z) "zip" := ⟨_, hz, rfl⟩
  unfold pyNext
  refine wpAny_bind (wpAny_attempt (wpAny_callSpecial?_slot (name := Str.ofString "__next__") hT F.slot_zip_next
    (wpAny_call_entry F.slot_zip_next hT F.entry_zip_next (zipM_end hh D hz hTI hTO h1 h2 t1 t2 hend fun h' e hk he => ?_) (F.args_zip_next_1 _))))
  obtain ⟨o, ho, hc⟩ := he
  exact wpAny_bind (wpAny_isInstance (T := "StopIteration") (b := true) ⟨o, ho, hc⟩ isSubtype_stop (wpAny_pure (hQ _ hk)))
end
def zmH1 (h : Heap) (l1 : Addr) : Heap := h.push { cls := .type "tuple_iterator", data := .fields #[.ref l1, .int 0 0] }
def zmH2 (h : Heap) (l1 l2 : Addr) : Heap := (zmH1 h l1).push { cls := .type "list_iterator", data := .fields #[.ref l2, .int 0 0] }
def zmH3 (h : Heap) (l1 l2 : Addr) : Heap := (zmH2 h l1 l2).push { cls := .type "tuple", data := .seq #[.ref h.objs.size, .ref (zmH1 h l1).objs.size] }
def zmH4 (h : Heap) (l1 l2 : Addr) : Heap := (zmH3 h l1 l2).push { cls := .type "tuple", data := .seq #[.none, .none] }
def zmH5 (h : Heap) (l1 l2 : Addr) : Heap := (zmH4 h l1 l2).push { cls := .type "zip", data := .fields #[.none, .bool false, .bool false, .ref (zmH2 h l1 l2).objs.size, .ref (zmH3 h l1 l2).objs.size] }
theorem zipM_meets (l1 l2 : Addr) (xs ys : Array Value) :
    Meets (Builtin.«zip.__new__» ⟨[.type "zip", .ref l1, .ref l2], []⟩) (fun _ R s => s.heap.IsTuple l1 xs ∧ s.heap.IsList l2 ys ∧
      R (.ok (.ret (.ref (zmH4 s.heap l1 l2).objs.size))) { s with heap := zmH5 s.heap l1 l2 }) :=
  .of_wp fun prog w A R s h => by
    obtain ⟨hp, g, d, tk, os⟩ := s; obtain ⟨t1, t2, h⟩ := h
    have hsub := sub_zip
    have f1 : Heap.IsTuple (Shared.heap ⟨hp, g, d, tk, os⟩) l1 xs := t1
    have f2 : Heap.IsList (Shared.heap ⟨hp.push { cls := .type "tuple_iterator", data := .fields #[.ref l1, .int 0 0] }, g, d, tk, os⟩) l2 ys := Heap.IsList.push t2 _
    wp_walk using wpAny_pyIter_tuple f1, wpAny_pyIter_list f2
    exact ⟨_, rfl, h⟩
section
variable {prog : Program} {w : World} {A : Around} {E : Value → Shared → Prop} {s : Shared}
theorem zipM_call {l1 l2 : Addr} {xs ys : Array Value} {Q : Value → Shared → Prop} (t1 : s.heap.IsTuple l1 xs) (t2 : s.heap.IsList l2 ys)
    (h : ∀ h', IsZip h' (s.heap.objs.size + 4) (s.heap.objs.size + 2) (s.heap.objs.size + 3) .none → IsPair h' (s.heap.objs.size + 2) (.ref s.heap.objs.size) (.ref (s.heap.objs.size + 1)) →
      IsPair h' (s.heap.objs.size + 3) .none .none → h'.IsTupleIter s.heap.objs.size l1 0 → h'.IsListIter (s.heap.objs.size + 1) l2 0 →
      (∀ c o, s.heap.get? c = some o → h'.get? c = some o) → Q (.ref (s.heap.objs.size + 4)) { s with heap := h' }) :
    wpAny (model prog w) A (call (.type "zip") [.ref l1, .ref l2]) Q E s := by
  refine callType_new F.called_zip (by decide) (F.typeCall_zip_2 _ _) (F.newCall_zip_2 _ _) (fun obj => F.args_object_init_3 obj _ _) F.entry_zip_new
    (zipM_meets l1 l2 xs ys) ⟨t1, t2, ?_⟩
  have n1 : (zmH1 s.heap l1).objs.size = s.heap.objs.size + 1 := Heap.size_push ..
  have n2 : (zmH2 s.heap l1 l2).objs.size = s.heap.objs.size + 2 := (Heap.size_push ..).trans (by rw [n1])
  have n3 : (zmH3 s.heap l1 l2).objs.size = s.heap.objs.size + 3 := (Heap.size_push ..).trans (by rw [n2])
  have n4 : (zmH4 s.heap l1 l2).objs.size = s.heap.objs.size + 4 := (Heap.size_push ..).trans (by rw [n3])
  have up1 : ∀ c o, (zmH1 s.heap l1).get? c = some o → (zmH5 s.heap l1 l2).get? c = some o := fun c o e =>
    Heap.get?_push_of_some _ (Heap.get?_push_of_some _ (Heap.get?_push_of_some _ (Heap.get?_push_of_some _ e)))
  have g5 : (zmH5 s.heap l1 l2).get? (zmH4 s.heap l1 l2).objs.size = some _ := Heap.get?_push_size _ rfl
  have g4 : (zmH5 s.heap l1 l2).get? (zmH3 s.heap l1 l2).objs.size = some _ := Heap.get?_push_of_some _ (Heap.get?_push_size _ rfl)
  have g3 : (zmH5 s.heap l1 l2).get? (zmH2 s.heap l1 l2).objs.size = some _ := Heap.get?_push_of_some _ (Heap.get?_push_of_some _ (Heap.get?_push_size _ rfl))
  have g2 : (zmH5 s.heap l1 l2).get? (zmH1 s.heap l1).objs.size = some _ := Heap.get?_push_of_some _ (Heap.get?_push_of_some _ (Heap.get?_push_of_some _ (Heap.get?_push_size _ rfl)))
  have g1 : (zmH5 s.heap l1 l2).get? s.heap.objs.size = some _ := up1 _ _ (Heap.get?_push_size _ rfl)
  show _ ∧ _
  rw [n2, n3, n4] at g5
  rw [n1, n2] at g3
  rw [n3] at g4
  rw [n1] at g2
  rw [n4]
  exact ⟨⟨_, g5, rfl⟩, h _ g5 g3 g4 ⟨_, g1, rfl, rfl⟩ ⟨_, g2, rfl, rfl⟩ fun c o e => up1 _ _ (Heap.get?_push_of_some _ e)⟩
end
end PySem
namespace Toy
open PySem PySem.Spec PyProof.Rows L2
open Sem (wp)
/-- the tuple at a and the list at b as they stand at each turn, the items in new pairs -/
def ItzM (K : PySem.W.Frag) (a b : Addr) : It :=
  ⟨fun i H => ∃ (xs ys : List V) (x y : V), SqT K H a xs ∧ SqL K H b ys ∧ xs[i]? = some x ∧ ys[i]? = some y,
    fun i H v H' => ∃ T x y, v = .ref T ∧ H T = none ∧ H' = upd H T (.tup [x, y]) ∧ (∀ xs, SqT K H a xs → xs[i]? = some x) ∧ ∀ ys, SqL K H b ys → ys[i]? = some y,
    fun i H => ∃ xs ys : List V, SqT K H a xs ∧ SqL K H b ys ∧ (xs.length ≤ i ∨ ys.length ≤ i)⟩
theorem turn_zipM {P : Program} {w : World} {K : PySem.W.Frag} {elts : List Expr} {kk : Nat} {tpos : Pos} {a b z TI TO i1 i2 : Addr} (D : ZipApart z TI TO i1 i2 a b) :
    Turn P w K (.Tuple elts kk tpos) (ItzM K a b) [z, TI, TO, i1, i2] z (fun i h => IsZip h z TI TO .none ∧ IsPair h TI (.ref i1) (.ref i2) ∧ (∃ x y, IsPair h TO x y) ∧ h.IsTupleIter i1 a i ∧ h.IsListIter i2 b i) where
  mem := by simp
  obj := fun i h st c hc => by
    obtain ⟨hz, hTI, ⟨x, y, hTO⟩, ⟨o1, e1, _, d1⟩, ⟨o2, e2, _, d2⟩⟩ := st
    have e' : c = z ∨ c = TI ∨ c = TO ∨ c = i1 ∨ c = i2 := by simpa using hc
    rcases e' with q | q | q | q | q
    · rw [q]; exact ⟨_, hz, fun v q => nomatch q⟩
    · rw [q]; exact ⟨_, hTI, fun v q => nomatch q⟩
    · rw [q]; exact ⟨_, hTO, fun v q => nomatch q⟩
    · rw [q]; exact ⟨o1, e1, fun v q => by rw [d1] at q; cases q⟩
    · rw [q]; exact ⟨o2, e2, fun v q => by rw [d2] at q; cases q⟩
  keep := fun i h h' st k => by
    obtain ⟨hz, hTI, ⟨x, y, hTO⟩, h1, h2⟩ := st
    exact ⟨k z (by simp) _ hz, k TI (by simp) _ hTI, ⟨x, y, k TO (by simp) _ hTO⟩, h1.at fun o q => k i1 (by simp) o q, h2.at fun o q => k i2 (by simp) o q⟩
  item := by
    intro X hP hw hK hc i pins s σ H E I hf st hg
    subst hP hw hK
    obtain ⟨hz, hTI, ⟨x0, y0, hTO⟩, h1, h2⟩ := st
    obtain ⟨xs, ys, x, y, hqx, hqy, hx, hy⟩ := hg
    obtain ⟨its, rv, p, _⟩ := I.tuple hqx
    obtain ⟨its2, rv2, p2, _⟩ := I.list hqy
    obtain ⟨u, hu, ru⟩ := rv.get hx
    obtain ⟨u2, hu2, ru2⟩ := rv2.get hy
    have hzl : z < s.heap.objs.size := Heap.lt_size hz
    refine zipM_next D hz hTI hTO h1 h2 p p2.isList (x := u) (y := u2) (by simpa using hu) (by simpa using hu2) fun h' z' TO' h1' h2' hT hsz hk => ?_
    refine ⟨_, rfl, wpAny_letOwnedTupleGo_zip (s := { s with heap := h' }) z' fun h'' z'' sb => ?_⟩
    have hT2 : h''.get? s.heap.objs.size = some { cls := .type "tuple", data := .seq #[u, u2] } := (sb.2 _ (Nat.ne_of_gt hzl)).trans hT
    have new : ObjOk X.prog X.w (upd H s.heap.objs.size (.tup [x, y])) h'' s.heap.objs.size (.tup [x, y]) :=
      ⟨by show 2 ≤ sizeLine; decide, [u, u2], .cons ru (.cons ru2 .nil), ⟨_, hT2, rfl, _, rfl⟩⟩
    have I1 : Inv X pins σ (upd H s.heap.objs.size (.tup [x, y])) { s with heap := h'' } :=
      I.turnedNew (t' := s.toks) (ch := [z, TI, TO, i1, i2]) (fun c o hb q => (sb.2 c (fun q' => hb (by simp [q']))).trans (hk c o (fun q' => hb (by simp [q'])) (fun q' => hb (by simp [q'])) (fun q' => hb (by simp [q'])) (fun q' => hb (by simp [q'])) q)) hf (Nat.le_refl _) new
    refine ⟨.ref s.heap.objs.size, _, I1, rfl, ⟨_, x, y, rfl, I.hok.fresh (Nat.le_refl _), rfl, fun l hl => by rw [I.tuple_inj hl hqx]; exact hx, fun l hl => by rw [I.list_inj hl hqy]; exact hy⟩, ⟨z'', ?_, ⟨u, u2, ?_⟩, ?_, ?_⟩, fun c hcm => ?_⟩
    · exact (sb.2 _ D.TIz).trans (hk _ _ D.TIz D.TITO D.TIi1 D.TIi2 hTI)
    · exact (sb.2 _ D.TOz).trans TO'
    · exact h1'.at fun o q => (sb.2 _ D.i1z).trans q
    · exact h2'.at fun o q => (sb.2 _ D.i2z).trans q
    · have hlt : c < s.heap.objs.size := by
        have e' : c = z ∨ c = TI ∨ c = TO ∨ c = i1 ∨ c = i2 := by simpa using hcm
        rcases e' with q | q | q | q | q
        · rw [q]; exact hzl
        · rw [q]; exact Heap.lt_size hTI
        · rw [q]; exact Heap.lt_size hTO
        · rw [q]; obtain ⟨_, e1, _⟩ := h1; exact Heap.lt_size e1
        · rw [q]; obtain ⟨_, e2, _⟩ := h2; exact Heap.lt_size e2
      rw [upd_ne (Nat.ne_of_lt hlt)]
      exact (hf c hcm).1
  done := by
    intro X hP hw hK hc i pins s σ H E I hf st hg
    subst hP hw hK
    obtain ⟨hz, hTI, ⟨x0, y0, hTO⟩, h1, h2⟩ := st
    obtain ⟨xs, ys, hqx, hqy, hend⟩ := hg
    obtain ⟨its, rv, p, _⟩ := I.tuple hqx
    obtain ⟨its2, rv2, p2, _⟩ := I.list hqy
    have l1 := rv.length
    have l2 := rv2.length
    have he : its.toArray[i]? = none ∨ its2.toArray[i]? = none := by
      rcases hend with q | q
      · exact .inl (by simp; omega)
      · exact .inr (by simp; omega)
    exact zipM_done (I.ok.hd hc) D hz hTI hTO h1 h2 p p2.isList he fun h' hk => ⟨rfl, I.turnedL (t' := s.toks) (ch := [z, TI, TO, i1, i2]) (fun c o hb q =>
      hk c o (fun q' => hb (by simp [q'])) (fun q' => hb (by simp [q'])) (fun q' => hb (by simp [q'])) (fun q' => hb (by simp [q'])) q) hf⟩
  self := fun A i s Q E st h => wpAny_pyIter_zip st.1 h
def iZipM (K : PySem.W.Frag) (ta : TA) : TI := fun σ H R => ta σ H fun vs H1 => ∃ a b xs ys, vs = [.ref a, .ref b] ∧ SqT K H1 a xs ∧ SqL K H1 b ys ∧ R (ItzM K a b) H1
theorem pi_zipM {X : Cx} {e e2 : Expr} {ta : TA} {p pos tpos : Pos} {elts : List Expr} {kk : Nat} (hg : Gl X "zip") (hm : X.mg "zip" = none) (ha : PA X [e, e2] ta)
    (hs : starEach [e, e2] X.env = (false, eval e X.env) :: starEach [e2] X.env := by rfl) (hpl : (backTo pos (starEach [e2] X.env)).any (·.1) = false := by rfl) :
    PI X (.Tuple elts kk tpos) (.Call (.Name "zip" p) [e, e2] [] pos) (iZipM X.K ta) := by
  refine ⟨fun pins s σ H R I h => ?_⟩
  refine Call_ (ld_blt I hg hm PyProof.Rows.boot_zip (PyProof.Rows.callWith_type1 (thn (ha.run pos pins s σ H _ I h) fun us s1 ⟨vs, H1, I1, r1, q1⟩ => ?_) hs hpl))
  obtain ⟨a, b, xs, ys, ex, hqx, hqy, q⟩ := q1
  subst ex
  obtain ⟨u, u2, rfl, ra, rb⟩ := vals2 r1
  cases ra
  cases rb
  obtain ⟨its, rv, p1, _⟩ := I1.tuple hqx
  obtain ⟨its2, rv2, p2, _⟩ := I1.list hqy
  obtain ⟨o1, ho1, _⟩ := id p1
  have fr : ∀ j, FpOk X pins H1 (s1.heap.objs.size + j) := fun j => I1.fpOk (Nat.le_add_right _ j) (I1.hok.fresh (Nat.le_add_right _ j))
  refine zipM_call (show s1.heap.IsTuple a its.toArray from p1) p2.isList fun h' hz hTI hTO h1 h2 hk => wpAny_pyIter_zip hz ?_
  have I2 : Inv X pins σ H1 { s1 with heap := h' } := I1.kept (t' := s1.toks) hk
  refine ⟨s1.heap.objs.size + 4, [s1.heap.objs.size + 4, s1.heap.objs.size + 2, s1.heap.objs.size + 3, s1.heap.objs.size, s1.heap.objs.size + 1], _, _, H1, rfl, I2, turn_zipM (PySem.W.ktu_apart s1.heap.objs.size a b (Heap.lt_size ho1) p2.lt), ⟨hz, hTI, ⟨_, _, hTO⟩, h1, h2⟩, fun c hc => ?_, q⟩
  have e' : c = s1.heap.objs.size + 4 ∨ c = s1.heap.objs.size + 2 ∨ c = s1.heap.objs.size + 3 ∨ c = s1.heap.objs.size ∨ c = s1.heap.objs.size + 1 := by simpa using hc
  rcases e' with z | z | z | z | z
  · rw [z]; exact fr 4
  · rw [z]; exact fr 2
  · rw [z]; exact fr 3
  · rw [z]; exact fr 0
  · rw [z]; exact fr 1
end Toy
/-! ### zip of a list and a tuple, in a for or a comprehension -/
namespace PySem
section
variable {prog : Program} {w : World} {A : Around} {E : Value → Shared → Prop} {s : Shared}
/-- the second value drawn, the pair handed out -/
theorem zipN_out {z TI TO : Addr} {x y : Value} {Q : Value → Shared → Prop} (nz : TO ≠ z) (hz : IsZip s.heap z TI TO .ellipsis) (hTO : IsPair s.heap TO x y)
    (hQ : ∀ h', IsZip h' z TI TO (rawInt s.heap.objs.size) → IsPair h' s.heap.objs.size x y → h'.objs.size = s.heap.objs.size + 1 → (∀ c o, c ≠ z → s.heap.get? c = some o → h'.get? c = some o) → Q (.ref s.heap.objs.size) { s with heap := h' }) :
    wpAny (model prog w) A (newTuple [x, y] >>= fun T => Builtin.SmallTypes.ownedTupleHandOut (.ref z) T >>= fun _ => ret T) (fun fin s' => ∃ v, fin = .done (.ret v) ∧ Q v s') E s := by
  have zl : z < s.heap.objs.size := Heap.lt_size hz
  refine wpAny_bind (wpAny_newTuple ?_)
  refine wpAny_bind ?_
  unfold Builtin.SmallTypes.ownedTupleHandOut
  have z6 : IsZip (s.heap.push { cls := .type "tuple", data := .seq #[x, y] }) z TI TO .ellipsis := Heap.get?_push_of_some _ hz
  refine wpAny_bind (wpAny_setField_rec z6 (by simp) fun h7 z7 s7 => ?_)
  replace z7 : IsZip h7 z TI TO (rawInt s.heap.objs.size) := z7
  refine wpAny_setField_rec z7 (by simp) fun h8 z8 s8 => ?_
  replace z8 : IsZip h8 z TI TO (rawInt s.heap.objs.size) := z8
  refine wpAny_pure ⟨_, rfl, hQ h8 z8 ?_ ?_ fun c o n e => s8.extBut _ _ n (s7.extBut _ _ n (Heap.get?_push_of_some _ e))⟩
  · exact s8.extBut _ _ (Nat.ne_of_gt zl) (s7.extBut _ _ (Nat.ne_of_gt zl) (Heap.get?_push_size _ rfl))
  · rw [s8.1, s7.1, Heap.size_push]
theorem zipN_item {z TI TO i1 i2 l1 l2 : Addr} {k1 k2 : Nat} {xs ys : Array Value} {x y a b : Value} {Q : Value → Shared → Prop} (D : ZipApart z TI TO i1 i2 l1 l2)
    (hz : IsZip s.heap z TI TO .none) (hTI : IsPair s.heap TI (.ref i1) (.ref i2)) (hTO : IsPair s.heap TO a b)
    (h1 : s.heap.IsListIter i1 l1 k1) (h2 : s.heap.IsTupleIter i2 l2 k2) (t1 : s.heap.IsList l1 xs) (t2 : s.heap.IsTuple l2 ys) (hx : xs[k1]? = some x) (hy : ys[k2]? = some y)
    (hQ : ∀ h', IsZip h' z TI TO (rawInt s.heap.objs.size) → IsPair h' TO x y → h'.IsListIter i1 l1 (k1 + 1) → h'.IsTupleIter i2 l2 (k2 + 1) → IsPair h' s.heap.objs.size x y → h'.objs.size = s.heap.objs.size + 1 →
      (∀ c o, c ≠ z → c ≠ TO → c ≠ i1 → c ≠ i2 → s.heap.get? c = some o → h'.get? c = some o) → Q (.ref s.heap.objs.size) { s with heap := h' }) :
    wpAny (model prog w) A (Builtin.«zip.__next__» ⟨[.ref z], []⟩) (fun fin s' => ∃ v, fin = .done (.ret v) ∧ Q v s') E s := by
  show wpAny _ _ (field (.ref z) 2 >>= _) _ _ _
  refine wpAny_bind (wpAny_field hz rfl (x := .bool false) rfl ?_)
  show wpAny _ _ (field (.ref z) 3 >>= _) _ _ _
  refine wpAny_bind (wpAny_field hz rfl (x := .ref TI) rfl ?_)
  refine wpAny_bind (wpAny_seqItems hTI rfl ?_)
  show wpAny _ _ (Builtin.SmallTypes.ownedTupleIsFree (.ref z) >>= _) _ _ _
  refine wpAny_bind ?_
  unfold Builtin.SmallTypes.ownedTupleIsFree
  refine wpAny_bind (wpAny_field hz rfl (x := .none) rfl (wpAny_pure ?_))
  simp only [if_true]
  refine wpAny_bind (wpAny_rule ?_)
  refine wpAny_bind (wpAny_field hz rfl (x := .ref TO) rfl ?_)
  refine wpAny_bind (wpAny_setField_rec hz (by simp) fun g1 z1 e1 => ?_)
  replace z1 : IsZip g1 z TI TO .ellipsis := z1
  refine wpAny_bind ?_
  simp only [List.zipIdx_cons, List.zipIdx_nil, List.forIn_cons, List.forIn_nil]
  refine wpAny_bind (wpAny_bind (wpAny_onRaise ?_))
  show wpAny _ _ (Builtin.SmallTypes.nextOf (.ref i1) >>= _) _ _ _
  refine wpAny_bind (wpAny_nextOf_list_item (h1.extBut e1.extBut D.i1z) (t1.extBut e1.extBut D.l1z) hx fun g2 p2 e2 => wpAny_pure ?_)
  have o2 : IsPair g2 TO a b := e2.extBut _ _ D.TOi1 (e1.extBut _ _ D.TOz hTO)
  refine wpAny_bind (wpAny_seqItems o2 rfl ?_)
  refine wpAny_bind (wpAny_updateSeq_pair o2 fun g3 o3 e3 => ?_)
  replace o3 : IsPair g3 TO x b := o3
  refine wpAny_bind (wpAny_letGo (wpAny_pure ?_))
  refine wpAny_bind (wpAny_bind (wpAny_onRaise ?_))
  show wpAny _ _ (Builtin.SmallTypes.nextOf (.ref i2) >>= _) _ _ _
  refine wpAny_bind (RZ.nextOf_tuple_item (((h2.extBut e1.extBut D.i2z).extBut e2.extBut D.i12.symm).extBut e3.extBut D.TOi2.symm)
    (((t2.extBut e1.extBut D.l2z).extBut e2.extBut D.l2i1).extBut e3.extBut D.l2TO) hy fun g4 p4 e4 => wpAny_pure ?_)
  have o4 : IsPair g4 TO x b := e4.extBut _ _ D.TOi2 o3
  refine wpAny_bind (wpAny_seqItems o4 rfl ?_)
  refine wpAny_bind (wpAny_updateSeq_pair o4 fun g5 o5 e5 => ?_)
  replace o5 : IsPair g5 TO x y := o5
  refine wpAny_bind (wpAny_letGo (wpAny_pure (wpAny_pure ?_)))
  refine wpAny_bind (wpAny_seqItems o5 rfl ?_)
  have zz : IsZip g5 z TI TO .ellipsis := e5.extBut _ _ D.TOz.symm (e4.extBut _ _ D.i2z.symm (e3.extBut _ _ D.TOz.symm (e2.extBut _ _ D.i1z.symm z1)))
  have ez : g5.objs.size = s.heap.objs.size := by rw [e5.1, e4.1, e3.1, e2.1, e1.1]
  have kk : ∀ c o, c ≠ z → c ≠ TO → c ≠ i1 → c ≠ i2 → s.heap.get? c = some o → g5.get? c = some o := fun c o c1 c2 c3 c4 e =>
    e5.extBut _ _ c2 (e4.extBut _ _ c4 (e3.extBut _ _ c2 (e2.extBut _ _ c3 (e1.extBut _ _ c1 e))))
  have q1 : g5.IsListIter i1 l1 (k1 + 1) := ((p2.extBut e3.extBut D.TOi1.symm).extBut e4.extBut D.i12).extBut e5.extBut D.TOi1.symm
  have q2 : g5.IsTupleIter i2 l2 (k2 + 1) := p4.extBut e5.extBut D.TOi2.symm
  refine zipN_out (s := { s with heap := g5 }) D.TOz zz o5 fun h' a1 a2 a3 a4 => ?_
  simp only [ez] at a1 a2 a3 ⊢
  exact hQ h' a1 (a4 _ _ D.TOz o5) (q1.at fun o e => a4 _ o D.i1z e) (q2.at fun o e => a4 _ o D.i2z e) a2 a3 fun c o c1 c2 c3 c4 e => a4 c o c1 (kk c o c1 c2 c3 c4 e)
theorem zipN_end {z TI TO i1 i2 l1 l2 : Addr} {k1 k2 : Nat} {xs ys : Array Value} {a b : Value} {Q : Fin → Shared → Prop} (hh : A.handled = none) (D : ZipApart z TI TO i1 i2 l1 l2)
    (hz : IsZip s.heap z TI TO .none) (hTI : IsPair s.heap TI (.ref i1) (.ref i2)) (hTO : IsPair s.heap TO a b)
    (h1 : s.heap.IsListIter i1 l1 k1) (h2 : s.heap.IsTupleIter i2 l2 k2) (t1 : s.heap.IsList l1 xs) (t2 : s.heap.IsTuple l2 ys) (hend : xs[k1]? = none ∨ ys[k2]? = none)
    (hE : ∀ h' e, (∀ c o, c ≠ z → c ≠ TO → c ≠ i1 → c ≠ i2 → s.heap.get? c = some o → h'.get? c = some o) → (∃ o, h'.get? e = some o ∧ o.cls = .type "StopIteration") → E (.ref e) { s with heap := h' }) :
    wpAny (model prog w) A (Builtin.«zip.__next__» ⟨[.ref z], []⟩) Q E s := by
  show wpAny _ _ (field (.ref z) 2 >>= _) _ _ _
  refine wpAny_bind (wpAny_field hz rfl (x := .bool false) rfl ?_)
  show wpAny _ _ (field (.ref z) 3 >>= _) _ _ _
  refine wpAny_bind (wpAny_field hz rfl (x := .ref TI) rfl ?_)
  refine wpAny_bind (wpAny_seqItems hTI rfl ?_)
  show wpAny _ _ (Builtin.SmallTypes.ownedTupleIsFree (.ref z) >>= _) _ _ _
  refine wpAny_bind ?_
  unfold Builtin.SmallTypes.ownedTupleIsFree
  refine wpAny_bind (wpAny_field hz rfl (x := .none) rfl (wpAny_pure ?_))
  simp only [if_true]
  refine wpAny_bind (wpAny_rule ?_)
  refine wpAny_bind (wpAny_field hz rfl (x := .ref TO) rfl ?_)
  refine wpAny_bind (wpAny_setField_rec hz (by simp) fun g1 z1 e1 => ?_)
  replace z1 : IsZip g1 z TI TO .ellipsis := z1
  refine wpAny_bind ?_
  simp only [List.zipIdx_cons, List.zipIdx_nil, List.forIn_cons, List.forIn_nil]
  refine wpAny_bind (wpAny_bind (wpAny_onRaise ?_))
  show wpAny _ _ (Builtin.SmallTypes.nextOf (.ref i1) >>= _) _ _ _
  -- one of the two is done: its error goes out
  have out : ∀ (g : Heap) (e : Addr), IsZip g z TI TO .ellipsis → (∃ o, g.get? e = some o ∧ o.cls = .type "StopIteration") → (∀ c o, c ≠ z → c ≠ TO → c ≠ i1 → c ≠ i2 → s.heap.get? c = some o → g.get? c = some o) →
      wpAny (model prog w) A (setField (.ref z) 0 .none) (fun _ s' => E (.ref e) s') E { s with heap := g } := by
    rintro g e hg ⟨o, ho, hc⟩ hk
    have ne : e ≠ z := fun q => by subst q; rw [hg] at ho; cases ho; simp at hc
    exact wpAny_setField_rec hg (by simp) fun g' _ hs => hE g' e (fun c o c1 c2 c3 c4 q => hs.extBut _ _ c1 (hk c o c1 c2 c3 c4 q)) ⟨o, hs.extBut _ _ ne ho, hc⟩
  cases hx : xs[k1]? with
  | none =>
    refine wpAny_bind (wpAny_nextOf_list_end hh (h1.extBut e1.extBut D.i1z) (t1.extBut e1.extBut D.l1z) hx fun g2 e e2 he => ?_)
    exact out g2 e (e2 _ _ D.i1z.symm z1) he fun c o c1 _ c3 _ q => e2 _ _ c3 (e1.extBut _ _ c1 q)
  | some x =>
    have hy : ys[k2]? = none := by
      rcases hend with h | h
      · rw [hx] at h; cases h
      · exact h
    refine wpAny_bind (wpAny_nextOf_list_item (h1.extBut e1.extBut D.i1z) (t1.extBut e1.extBut D.l1z) hx fun g2 p2 e2 => wpAny_pure ?_)
    have o2 : IsPair g2 TO a b := e2.extBut _ _ D.TOi1 (e1.extBut _ _ D.TOz hTO)
    refine wpAny_bind (wpAny_seqItems o2 rfl ?_)
    refine wpAny_bind (wpAny_updateSeq_pair o2 fun g3 o3 e3 => ?_)
    refine wpAny_bind (wpAny_letGo (wpAny_pure ?_))
    refine wpAny_bind (wpAny_bind (wpAny_onRaise ?_))
    show wpAny _ _ (Builtin.SmallTypes.nextOf (.ref i2) >>= _) _ _ _
    refine wpAny_bind (RZ.nextOf_tuple_end hh (((h2.extBut e1.extBut D.i2z).extBut e2.extBut D.i12.symm).extBut e3.extBut D.TOi2.symm)
      (((t2.extBut e1.extBut D.l2z).extBut e2.extBut D.l2i1).extBut e3.extBut D.l2TO) hy fun g4 e e4 he => ?_)
    exact out g4 e (e4 _ _ D.i2z.symm (e3.extBut _ _ D.TOz.symm (e2.extBut _ _ D.i1z.symm z1))) he fun c o c1 c2 c3 c4 q => e4 _ _ c4 (e3.extBut _ _ c2 (e2.extBut _ _ c3 (e1.extBut _ _ c1 q)))
theorem zipN_next {z TI TO i1 i2 l1 l2 : Addr} {k1 k2 : Nat} {xs ys : Array Value} {x y a b : Value} {Q : Option Value → Shared → Prop} (D : ZipApart z TI TO i1 i2 l1 l2)
    (hz : IsZip s.heap z TI TO .none) (hTI : IsPair s.heap TI (.ref i1) (.ref i2)) (hTO : IsPair s.heap TO a b)
    (h1 : s.heap.IsListIter i1 l1 k1) (h2 : s.heap.IsTupleIter i2 l2 k2) (t1 : s.heap.IsList l1 xs) (t2 : s.heap.IsTuple l2 ys) (hx : xs[k1]? = some x) (hy : ys[k2]? = some y)
    (hQ : ∀ h', IsZip h' z TI TO (rawInt s.heap.objs.size) → IsPair h' TO x y → h'.IsListIter i1 l1 (k1 + 1) → h'.IsTupleIter i2 l2 (k2 + 1) → IsPair h' s.heap.objs.size x y → h'.objs.size = s.heap.objs.size + 1 →
      (∀ c o, c ≠ z → c ≠ TO → c ≠ i1 → c ≠ i2 → s.heap.get? c = some o → h'.get? c = some o) → Q (some (.ref s.heap.objs.size)) { s with heap := h' }) :
    wpAny (model prog w) A (pyNext (.ref z)) Q E s := by
  have hT : s.TypeIs (.ref z) "zip" := ⟨_, hz, rfl⟩
  unfold pyNext
  exact wpAny_bind (wpAny_attempt (wpAny_callSpecial?_slot (name := Str.ofString "__next__") hT F.slot_zip_next
    (wpAny_call_entry F.slot_zip_next hT F.entry_zip_next
      (zipN_item D hz hTI hTO h1 h2 t1 t2 hx hy fun h' a1 a2 a3 a4 a5 a6 a7 => wpAny_pure (hQ h' a1 a2 a3 a4 a5 a6 a7)) (F.args_zip_next_1 _))))
theorem zipN_done {z TI TO i1 i2 l1 l2 : Addr} {k1 k2 : Nat} {xs ys : Array Value} {a b : Value} {Q : Option Value → Shared → Prop} (hh : A.handled = none) (D : ZipApart z TI TO i1 i2 l1 l2)
    (hz : IsZip s.heap z TI TO .none) (hTI : IsPair s.heap TI (.ref i1) (.ref i2)) (hTO : IsPair s.heap TO a b)
    (h1 : s.heap.IsListIter i1 l1 k1) (h2 : s.heap.IsTupleIter i2 l2 k2) (t1 : s.heap.IsList l1 xs) (t2 : s.heap.IsTuple l2 ys) (hend : xs[k1]? = none ∨ ys[k2]? = none)
    (hQ : ∀ h', (∀ c o, c ≠ z → c ≠ TO → c ≠ i1 → c ≠ i2 → s.heap.get? c = some o → h'.get? c = some o) → Q none { s with heap := h' }) : wpAny (model prog w) A (pyNext (.ref z)) Q E s := by
  have hT : s.TypeIs (.ref z) "zip" := ⟨_, hz, rfl⟩
  unfold pyNext
  refine wpAny_bind (wpAny_attempt (wpAny_callSpecial?_slot (name := Str.ofString "__next__") hT F.slot_zip_next
    (wpAny_call_entry F.slot_zip_next hT F.entry_zip_next (zipN_end hh D hz hTI hTO h1 h2 t1 t2 hend fun h' e hk he => ?_) (F.args_zip_next_1 _))))
  obtain ⟨o, ho, hc⟩ := he
  exact wpAny_bind (wpAny_isInstance (T := "StopIteration") (b := true) ⟨o, ho, hc⟩ isSubtype_stop (wpAny_pure (hQ _ hk)))
end
def znH1 (h : Heap) (l1 : Addr) : Heap := h.push { cls := .type "list_iterator", data := .fields #[.ref l1, .int 0 0] }
def znH2 (h : Heap) (l1 l2 : Addr) : Heap := (znH1 h l1).push { cls := .type "tuple_iterator", data := .fields #[.ref l2, .int 0 0] }
def znH3 (h : Heap) (l1 l2 : Addr) : Heap := (znH2 h l1 l2).push { cls := .type "tuple", data := .seq #[.ref h.objs.size, .ref (znH1 h l1).objs.size] }
def znH4 (h : Heap) (l1 l2 : Addr) : Heap := (znH3 h l1 l2).push { cls := .type "tuple", data := .seq #[.none, .none] }
def znH5 (h : Heap) (l1 l2 : Addr) : Heap := (znH4 h l1 l2).push { cls := .type "zip", data := .fields #[.none, .bool false, .bool false, .ref (znH2 h l1 l2).objs.size, .ref (znH3 h l1 l2).objs.size] }
theorem zipN_meets (l1 l2 : Addr) (xs ys : Array Value) :
    Meets (Builtin.«zip.__new__» ⟨[.type "zip", .ref l1, .ref l2], []⟩) (fun _ R s => s.heap.IsList l1 xs ∧ s.heap.IsTuple l2 ys ∧
      R (.ok (.ret (.ref (znH4 s.heap l1 l2).objs.size))) { s with heap := znH5 s.heap l1 l2 }) :=
  .of_wp fun prog w A R s h => by
    obtain ⟨hp, g, d, tk, os⟩ := s; obtain ⟨t1, t2, h⟩ := h
    have hsub := sub_zip
    have f1 : Heap.IsList (Shared.heap ⟨hp, g, d, tk, os⟩) l1 xs := t1
    have f2 : Heap.IsTuple (Shared.heap ⟨hp.push { cls := .type "list_iterator", data := .fields #[.ref l1, .int 0 0] }, g, d, tk, os⟩) l2 ys := Heap.IsTuple.push t2 _
    wp_walk using wpAny_pyIter_list f1, wpAny_pyIter_tuple f2
    exact ⟨_, rfl, h⟩
section
variable {prog : Program} {w : World} {A : Around} {E : Value → Shared → Prop} {s : Shared}
theorem zipN_call {l1 l2 : Addr} {xs ys : Array Value} {Q : Value → Shared → Prop} (t1 : s.heap.IsList l1 xs) (t2 : s.heap.IsTuple l2 ys)
    (h : ∀ h', IsZip h' (s.heap.objs.size + 4) (s.heap.objs.size + 2) (s.heap.objs.size + 3) .none → IsPair h' (s.heap.objs.size + 2) (.ref s.heap.objs.size) (.ref (s.heap.objs.size + 1)) →
      IsPair h' (s.heap.objs.size + 3) .none .none → h'.IsListIter s.heap.objs.size l1 0 → h'.IsTupleIter (s.heap.objs.size + 1) l2 0 →
      (∀ c o, s.heap.get? c = some o → h'.get? c = some o) → Q (.ref (s.heap.objs.size + 4)) { s with heap := h' }) :
    wpAny (model prog w) A (call (.type "zip") [.ref l1, .ref l2]) Q E s := by
  refine callType_new F.called_zip (by decide) (F.typeCall_zip_2 _ _) (F.newCall_zip_2 _ _) (fun obj => F.args_object_init_3 obj _ _) F.entry_zip_new
    (zipN_meets l1 l2 xs ys) ⟨t1, t2, ?_⟩
  have n1 : (znH1 s.heap l1).objs.size = s.heap.objs.size + 1 := Heap.size_push ..
  have n2 : (znH2 s.heap l1 l2).objs.size = s.heap.objs.size + 2 := (Heap.size_push ..).trans (by rw [n1])
  have n3 : (znH3 s.heap l1 l2).objs.size = s.heap.objs.size + 3 := (Heap.size_push ..).trans (by rw [n2])
  have n4 : (znH4 s.heap l1 l2).objs.size = s.heap.objs.size + 4 := (Heap.size_push ..).trans (by rw [n3])
  have up1 : ∀ c o, (znH1 s.heap l1).get? c = some o → (znH5 s.heap l1 l2).get? c = some o := fun c o e =>
    Heap.get?_push_of_some _ (Heap.get?_push_of_some _ (Heap.get?_push_of_some _ (Heap.get?_push_of_some _ e)))
  have g5 : (znH5 s.heap l1 l2).get? (znH4 s.heap l1 l2).objs.size = some _ := Heap.get?_push_size _ rfl
  have g4 : (znH5 s.heap l1 l2).get? (znH3 s.heap l1 l2).objs.size = some _ := Heap.get?_push_of_some _ (Heap.get?_push_size _ rfl)
  have g3 : (znH5 s.heap l1 l2).get? (znH2 s.heap l1 l2).objs.size = some _ := Heap.get?_push_of_some _ (Heap.get?_push_of_some _ (Heap.get?_push_size _ rfl))
  have g2 : (znH5 s.heap l1 l2).get? (znH1 s.heap l1).objs.size = some _ := Heap.get?_push_of_some _ (Heap.get?_push_of_some _ (Heap.get?_push_of_some _ (Heap.get?_push_size _ rfl)))
  have g1 : (znH5 s.heap l1 l2).get? s.heap.objs.size = some _ := up1 _ _ (Heap.get?_push_size _ rfl)
  show _ ∧ _
  rw [n2, n3, n4] at g5
  rw [n1, n2] at g3
  rw [n3] at g4
  rw [n1] at g2
  rw [n4]
  exact ⟨⟨_, g5, rfl⟩, h _ g5 g3 g4 ⟨_, g1, rfl, rfl⟩ ⟨_, g2, rfl, rfl⟩ fun c o e => up1 _ _ (Heap.get?_push_of_some _ e)⟩
end
end PySem
namespace Toy
open PySem PySem.Spec PyProof.Rows L2
open Sem (wp)
/-- the list at a and the tuple at b as they stand at each turn, the items in new pairs -/
def ItzN (K : PySem.W.Frag) (a b : Addr) : It :=
  ⟨fun i H => ∃ (xs ys : List V) (x y : V), SqL K H a xs ∧ SqT K H b ys ∧ xs[i]? = some x ∧ ys[i]? = some y,
    fun i H v H' => ∃ T x y, v = .ref T ∧ H T = none ∧ H' = upd H T (.tup [x, y]) ∧ (∀ xs, SqL K H a xs → xs[i]? = some x) ∧ ∀ ys, SqT K H b ys → ys[i]? = some y,
    fun i H => ∃ xs ys : List V, SqL K H a xs ∧ SqT K H b ys ∧ (xs.length ≤ i ∨ ys.length ≤ i)⟩
theorem turn_zipN {P : Program} {w : World} {K : PySem.W.Frag} {elts : List Expr} {kk : Nat} {tpos : Pos} {a b z TI TO i1 i2 : Addr} (D : ZipApart z TI TO i1 i2 a b) :
    Turn P w K (.Tuple elts kk tpos) (ItzN K a b) [z, TI, TO, i1, i2] z (fun i h => IsZip h z TI TO .none ∧ IsPair h TI (.ref i1) (.ref i2) ∧ (∃ x y, IsPair h TO x y) ∧ h.IsListIter i1 a i ∧ h.IsTupleIter i2 b i) where
  mem := by simp
  obj := fun i h st c hc => by
    obtain ⟨hz, hTI, ⟨x, y, hTO⟩, ⟨o1, e1, _, d1⟩, ⟨o2, e2, _, d2⟩⟩ := st
    have e' : c = z ∨ c = TI ∨ c = TO ∨ c = i1 ∨ c = i2 := by simpa using hc
    rcases e' with q | q | q | q | q
    · rw [q]; exact ⟨_, hz, fun v q => nomatch q⟩
    · rw [q]; exact ⟨_, hTI, fun v q => nomatch q⟩
    · rw [q]; exact ⟨_, hTO, fun v q => nomatch q⟩
    · rw [q]; exact ⟨o1, e1, fun v q => by rw [d1] at q; cases q⟩
    · rw [q]; exact ⟨o2, e2, fun v q => by rw [d2] at q; cases q⟩
  keep := fun i h h' st k => by
    obtain ⟨hz, hTI, ⟨x, y, hTO⟩, h1, h2⟩ := st
    exact ⟨k z (by simp) _ hz, k TI (by simp) _ hTI, ⟨x, y, k TO (by simp) _ hTO⟩, h1.at fun o q => k i1 (by simp) o q, h2.at fun o q => k i2 (by simp) o q⟩
  item := by
    intro X hP hw hK hc i pins s σ H E I hf st hg
    subst hP hw hK
    obtain ⟨hz, hTI, ⟨x0, y0, hTO⟩, h1, h2⟩ := st
    obtain ⟨xs, ys, x, y, hqx, hqy, hx, hy⟩ := hg
    obtain ⟨its, rv, p, _⟩ := I.list hqx
    obtain ⟨its2, rv2, p2, _⟩ := I.tuple hqy
    obtain ⟨u, hu, ru⟩ := rv.get hx
    obtain ⟨u2, hu2, ru2⟩ := rv2.get hy
    have hzl : z < s.heap.objs.size := Heap.lt_size hz
    refine zipN_next D hz hTI hTO h1 h2 p.isList p2 (x := u) (y := u2) (by simpa using hu) (by simpa using hu2) fun h' z' TO' h1' h2' hT hsz hk => ?_
    refine ⟨_, rfl, wpAny_letOwnedTupleGo_zip (s := { s with heap := h' }) z' fun h'' z'' sb => ?_⟩
    have hT2 : h''.get? s.heap.objs.size = some { cls := .type "tuple", data := .seq #[u, u2] } := (sb.2 _ (Nat.ne_of_gt hzl)).trans hT
    have new : ObjOk X.prog X.w (upd H s.heap.objs.size (.tup [x, y])) h'' s.heap.objs.size (.tup [x, y]) :=
      ⟨by show 2 ≤ sizeLine; decide, [u, u2], .cons ru (.cons ru2 .nil), ⟨_, hT2, rfl, _, rfl⟩⟩
    have I1 : Inv X pins σ (upd H s.heap.objs.size (.tup [x, y])) { s with heap := h'' } :=
      I.turnedNew (t' := s.toks) (ch := [z, TI, TO, i1, i2]) (fun c o hb q => (sb.2 c (fun q' => hb (by simp [q']))).trans (hk c o (fun q' => hb (by simp [q'])) (fun q' => hb (by simp [q'])) (fun q' => hb (by simp [q'])) (fun q' => hb (by simp [q'])) q)) hf (Nat.le_refl _) new
    refine ⟨.ref s.heap.objs.size, _, I1, rfl, ⟨_, x, y, rfl, I.hok.fresh (Nat.le_refl _), rfl, fun l hl => by rw [I.list_inj hl hqx]; exact hx, fun l hl => by rw [I.tuple_inj hl hqy]; exact hy⟩, ⟨z'', ?_, ⟨u, u2, ?_⟩, ?_, ?_⟩, fun c hcm => ?_⟩
    · exact (sb.2 _ D.TIz).trans (hk _ _ D.TIz D.TITO D.TIi1 D.TIi2 hTI)
    · exact (sb.2 _ D.TOz).trans TO'
    · exact h1'.at fun o q => (sb.2 _ D.i1z).trans q
    · exact h2'.at fun o q => (sb.2 _ D.i2z).trans q
    · have hlt : c < s.heap.objs.size := by
        have e' : c = z ∨ c = TI ∨ c = TO ∨ c = i1 ∨ c = i2 := by simpa using hcm
        rcases e' with q | q | q | q | q
        · rw [q]; exact hzl
        · rw [q]; exact Heap.lt_size hTI
        · rw [q]; exact Heap.lt_size hTO
        · rw [q]; obtain ⟨_, e1, _⟩ := h1; exact Heap.lt_size e1
        · rw [q]; obtain ⟨_, e2, _⟩ := h2; exact Heap.lt_size e2
      rw [upd_ne (Nat.ne_of_lt hlt)]
      exact (hf c hcm).1
  done := by
    intro X hP hw hK hc i pins s σ H E I hf st hg
    subst hP hw hK
    obtain ⟨hz, hTI, ⟨x0, y0, hTO⟩, h1, h2⟩ := st
    obtain ⟨xs, ys, hqx, hqy, hend⟩ := hg
    obtain ⟨its, rv, p, _⟩ := I.list hqx
    obtain ⟨its2, rv2, p2, _⟩ := I.tuple hqy
    have l1 := rv.length
    have l2 := rv2.length
    have he : its.toArray[i]? = none ∨ its2.toArray[i]? = none := by
      rcases hend with q | q
      · exact .inl (by simp; omega)
      · exact .inr (by simp; omega)
    exact zipN_done (I.ok.hd hc) D hz hTI hTO h1 h2 p.isList p2 he fun h' hk => ⟨rfl, I.turnedL (t' := s.toks) (ch := [z, TI, TO, i1, i2]) (fun c o hb q =>
      hk c o (fun q' => hb (by simp [q'])) (fun q' => hb (by simp [q'])) (fun q' => hb (by simp [q'])) (fun q' => hb (by simp [q'])) q) hf⟩
  self := fun A i s Q E st h => wpAny_pyIter_zip st.1 h
def iZipN (K : PySem.W.Frag) (ta : TA) : TI := fun σ H R => ta σ H fun vs H1 => ∃ a b xs ys, vs = [.ref a, .ref b] ∧ SqL K H1 a xs ∧ SqT K H1 b ys ∧ R (ItzN K a b) H1
theorem pi_zipN {X : Cx} {e e2 : Expr} {ta : TA} {p pos tpos : Pos} {elts : List Expr} {kk : Nat} (hg : Gl X "zip") (hm : X.mg "zip" = none) (ha : PA X [e, e2] ta)
    (hs : starEach [e, e2] X.env = (false, eval e X.env) :: starEach [e2] X.env := by rfl) (hpl : (backTo pos (starEach [e2] X.env)).any (·.1) = false := by rfl) :
    PI X (.Tuple elts kk tpos) (.Call (.Name "zip" p) [e, e2] [] pos) (iZipN X.K ta) := by
  refine ⟨fun pins s σ H R I h => ?_⟩
  refine Call_ (ld_blt I hg hm PyProof.Rows.boot_zip (PyProof.Rows.callWith_type1 (thn (ha.run pos pins s σ H _ I h) fun us s1 ⟨vs, H1, I1, r1, q1⟩ => ?_) hs hpl))
  obtain ⟨a, b, xs, ys, ex, hqx, hqy, q⟩ := q1
  subst ex
  obtain ⟨u, u2, rfl, ra, rb⟩ := vals2 r1
  cases ra
  cases rb
  obtain ⟨its, rv, p1, _⟩ := I1.list hqx
  obtain ⟨its2, rv2, p2, _⟩ := I1.tuple hqy
  obtain ⟨o2, ho2, _⟩ := id p2
  have fr : ∀ j, FpOk X pins H1 (s1.heap.objs.size + j) := fun j => I1.fpOk (Nat.le_add_right _ j) (I1.hok.fresh (Nat.le_add_right _ j))
  refine zipN_call p1.isList (show s1.heap.IsTuple b its2.toArray from p2) fun h' hz hTI hTO h1 h2 hk => wpAny_pyIter_zip hz ?_
  have I2 : Inv X pins σ H1 { s1 with heap := h' } := I1.kept (t' := s1.toks) hk
  refine ⟨s1.heap.objs.size + 4, [s1.heap.objs.size + 4, s1.heap.objs.size + 2, s1.heap.objs.size + 3, s1.heap.objs.size, s1.heap.objs.size + 1], _, _, H1, rfl, I2, turn_zipN (PySem.W.ktu_apart s1.heap.objs.size a b p1.lt (Heap.lt_size ho2)), ⟨hz, hTI, ⟨_, _, hTO⟩, h1, h2⟩, fun c hc => ?_, q⟩
  have e' : c = s1.heap.objs.size + 4 ∨ c = s1.heap.objs.size + 2 ∨ c = s1.heap.objs.size + 3 ∨ c = s1.heap.objs.size ∨ c = s1.heap.objs.size + 1 := by simpa using hc
  rcases e' with z | z | z | z | z
  · rw [z]; exact fr 4
  · rw [z]; exact fr 2
  · rw [z]; exact fr 3
  · rw [z]; exact fr 0
  · rw [z]; exact fr 1
/-- [.. for x, y in zip(xs, ys)], a list and a tuple -/
theorem lc_zipN {K : PySem.W.Frag} {a b : Addr} {xs ys : List V} {g : TG} {tt : TT} {te : TE} {vs : List Nat} {σ : L2.St} {H1 : Hp} {D : Addr} {Qd : Hp → Prop} (hl : xs.length = ys.length) (Pv : Nat → Hp → Prop) (h0 : Pv 0 (upd H1 D (.lst []))) (hq : ∀ i H, i ≤ xs.length → Pv i H → SqL K H a xs ∧ SqT K H b ys)
    (hs : ∀ (i : Nat) x y (T : Addr) H, xs[i]? = some x → ys[i]? = some y → Pv i H → H T = none → g (.ref T) (wipe σ vs) (upd H T (.tup [x, y])) fun σ2 H2 => wipe σ2 vs = wipe σ vs ∧ tt σ2 H2 fun b H3 =>
      if b = true then te σ2 H3 fun y H4 => ∃ acc, H4 D = some (.lst acc) ∧ acc.length < sizeLine ∧ Pv (i + 1) (upd H4 D (.lst (acc ++ [y]))) else Pv (i + 1) H3) (hd : ∀ H, Pv xs.length H → Qd H) :
    ∃ W : Nat → Nat → Hp → Prop, (∃ m, W 0 m (upd H1 D (.lst []))) ∧ ∀ i m H, W i m H →
      ((ItzN K a b).stop i H ∧ Qd H) ∨ ((ItzN K a b).go i H ∧ ∃ Nx : Hp → Prop, (∀ H', Nx H' → ∃ m', m' < m ∧ W (i + 1) m' H') ∧ ∀ x H', (ItzN K a b).yld i H x H' → g x (wipe σ vs) H' fun σ2 H2 => wipe σ2 vs = wipe σ vs ∧ tt σ2 H2 fun b H3 =>
        if b = true then te σ2 H3 fun y H4 => ∃ acc, H4 D = some (.lst acc) ∧ acc.length < sizeLine ∧ Nx (upd H4 D (.lst (acc ++ [y]))) else Nx H3) := by
  refine lc_it (I := ItzN K a b) (n := xs.length) Pv h0 (fun i H hi p => ?_) (fun H p => ?_) ?_ hd
  · obtain ⟨qx, qy⟩ := hq i H (Nat.le_of_lt hi) p
    exact ⟨xs, ys, _, _, qx, qy, List.getElem?_eq_getElem hi, List.getElem?_eq_getElem (by omega)⟩
  · obtain ⟨qx, qy⟩ := hq _ H (Nat.le_refl _) p
    exact ⟨xs, ys, qx, qy, .inl (Nat.le_refl _)⟩
  rintro i x H H' hi p ⟨T, z, w, rfl, hT, rfl, f1, f2⟩
  obtain ⟨qx, qy⟩ := hq i H (Nat.le_of_lt hi) p
  exact hs i z w T H (f1 xs qx) (f2 ys qy) p hT
end Toy
/-! ### data that is compared: no truths in it -/
namespace Toy
open PySem PySem.Spec PyProof.Rows L2
mutual
def nb : PyData → Bool
  | .none => true
  | .bool _ => false
  | .int _ => true
  | .str _ => true
  | .list ds => nbs ds
  | .tuple ds => nbs ds
  | .dict _ => false
def nbs : List PyData → Bool
  | [] => true
  | d :: ds => nb d && nbs ds
end
theorem nbs_of : ∀ {ds : List PyData}, (∀ d ∈ ds, nb d = true) → nbs ds = true
  | [], _ => by simp [nbs]
  | d :: ds, h => by simp [nbs, h d List.mem_cons_self, nbs_of (ds := ds) fun x hx => h x (List.mem_cons_of_mem _ hx)]
mutual
theorem eqv_nb : ∀ d e : PyData, nb d = true → nb e = true → PyData.eqv d e = true → d = e
  | .none, e, _, h, q => by cases e <;> simp_all [PyData.eqv, nb]
  | .int i, e, _, h, q => by cases e <;> simp_all [PyData.eqv, nb]
  | .str x, e, _, h, q => by cases e <;> simp_all [PyData.eqv, nb]
  | .bool _, _, h, _, _ => by simp [nb] at h
  | .dict _, _, h, _, _ => by simp [nb] at h
  | .list ds, e, h, g, q => by
    cases e with
    | list es =>
      rw [PyData.eqv] at q
      exact congrArg PyData.list (eqvs_nb ds es (by simpa [nb] using h) (by simpa [nb] using g) q)
    | _ => simp [PyData.eqv] at q
  | .tuple ds, e, h, g, q => by
    cases e with
    | tuple es =>
      rw [PyData.eqv] at q
      exact congrArg PyData.tuple (eqvs_nb ds es (by simpa [nb] using h) (by simpa [nb] using g) q)
    | _ => simp [PyData.eqv] at q
theorem eqvs_nb : ∀ ds es : List PyData, nbs ds = true → nbs es = true → PyData.eqvAll ds es = true → ds = es
  | [], [], _, _, _ => rfl
  | [], _ :: _, _, _, q => by simp [PyData.eqvAll] at q
  | _ :: _, [], _, _, q => by simp [PyData.eqvAll] at q
  | d :: ds, e :: es, h, g, q => by
    simp only [nbs, Bool.and_eq_true] at h g
    simp only [PyData.eqvAll, Bool.and_eq_true] at q
    rw [eqv_nb d e h.1 g.1 q.1, eqvs_nb ds es h.2 g.2 q.2]
end
structure Ly (n : Nat) (d : PyData) : Prop where
  can : d.canLay0 = true
  dep : d.depth ≤ n
  no : nb d = true
theorem Ly.non {n : Nat} : Ly n .none := ⟨by simp [PyData.canLay0], by simp [PyData.depth], by simp [nb]⟩
theorem Ly.int {n : Nat} {i : Int} : Ly n (.int i) := ⟨by simp [PyData.canLay0], by simp [PyData.depth], by simp [nb]⟩
theorem Ly.str {n : Nat} {x : Str} (h : (PyData.str x).canLay0 = true := by decide +kernel) : Ly n (.str x) := ⟨h, by simp [PyData.depth], by simp [nb]⟩
theorem Ly.mono {n m : Nat} {d : PyData} (a : Ly n d) (h : n ≤ m) : Ly m d := ⟨a.can, Nat.le_trans a.dep h, a.no⟩
theorem can_all : ∀ {ds : List PyData}, (∀ d ∈ ds, d.canLay0 = true) → PyData.canLayAll0 ds = true
  | [], _ => by simp [PyData.canLayAll0]
  | d :: ds, h => by simp [PyData.canLayAll0, h d List.mem_cons_self, can_all (ds := ds) fun x hx => h x (List.mem_cons_of_mem _ hx)]
theorem dep_all {n : Nat} : ∀ {ds : List PyData}, (∀ d ∈ ds, d.depth ≤ n) → PyData.depthAll ds ≤ n
  | [], _ => by simp [PyData.depthAll]
  | d :: ds, h => by
    have h1 := h d List.mem_cons_self
    have h2 := dep_all (ds := ds) fun x hx => h x (List.mem_cons_of_mem _ hx)
    simp only [PyData.depthAll]
    omega
theorem Ly.lst {n : Nat} {ds : List PyData} (h : ∀ d ∈ ds, Ly n d) : Ly (n + 1) (.list ds) :=
  ⟨by simp only [PyData.canLay0]; exact can_all fun d hd => (h d hd).can, by simp only [PyData.depth]; have := dep_all fun d hd => (h d hd).dep; omega, by simp only [nb]; exact nbs_of fun d hd => (h d hd).no⟩
theorem Ly.tup {n : Nat} {ds : List PyData} (h : ∀ d ∈ ds, Ly n d) : Ly (n + 1) (.tuple ds) :=
  ⟨by simp only [PyData.canLay0]; exact can_all fun d hd => (h d hd).can, by simp only [PyData.depth]; have := dep_all fun d hd => (h d hd).dep; omega, by simp only [nb]; exact nbs_of fun d hd => (h d hd).no⟩
theorem Ly.tupI {ns : List Int} : Ly 1 (.tuple (ns.map PyData.int)) := .tup fun d hd => by obtain ⟨i, _, rfl⟩ := List.mem_map.mp hd; exact .int
theorem Ly.lstI {ns : List Int} : Ly 1 (.list (ns.map PyData.int)) := .lst fun d hd => by obtain ⟨i, _, rfl⟩ := List.mem_map.mp hd; exact .int
theorem Ly.tup2 {n : Nat} {a b : PyData} (ha : Ly n a) (hb : Ly n b) : Ly (n + 1) (.tuple [a, b]) := .tup fun d hd => by
  rcases List.mem_cons.mp hd with rfl | hd
  · exact ha
  · cases List.mem_singleton.mp hd; exact hb
theorem Ly.sh {n : Nat} {d : PyData} (a : Ly n d) (h : n ≤ 64 := by decide) : SeqAt.shaped d = true := by
  show (d.canLay0 && decide (d.depth ≤ 64)) = true
  rw [a.can, decide_eq_true (Nat.le_trans a.dep h)] <;> rfl
theorem Ly.refl {n : Nat} {d : PyData} (a : Ly n d) (h : n ≤ 64 := by decide) : PyData.eqv d d = true := SeqAt.eqv_refl _ (SeqAt.canLay_of_shaped (a.sh h))
theorem Ly.eq {n m : Nat} {d e : PyData} (a : Ly n d) (b : Ly m e) (h : PyData.eqv d e = true) : d = e := eqv_nb d e a.no b.no h
theorem Ly.ne {n m : Nat} {d e : PyData} (a : Ly n d) (b : Ly m e) (h : d ≠ e) : PyData.eqv d e = false := by
  cases c : PyData.eqv d e with
  | false => rfl
  | true => exact absurd (a.eq b c) h
theorem dpAll_of {K : PySem.W.Frag} {H : Hp} : ∀ {xs : List V} {ds : List PyData}, xs.length = ds.length → (∀ (i : Nat) (x : V) (d : PyData), xs[i]? = some x → ds[i]? = some d → Dp K H x d) → DpAll K H xs ds
  | [], [], _, _ => .nil
  | [], _ :: _, h, _ => by simp at h
  | _ :: _, [], h, _ => by simp at h
  | x :: xs, d :: ds, h, q => .cons (q 0 x d rfl rfl) (dpAll_of (by simpa using h) fun i y e h1 h2 => q (i + 1) y e (by simpa using h1) (by simpa using h2))
theorem dp_tup2 {K : PySem.W.Frag} {H : Hp} {p : Addr} {x y : V} {a b : PyData} (h : SqT K H p [x, y]) (ha : Dp K H x a) (hb : Dp K H y b) : Dp K H (.ref p) (.tuple [a, b]) := .tup h (.cons ha (.cons hb .nil))
end Toy
/-! ### tuples: t + u and t[a:b] of any kind -/
namespace Toy
open PySem PySem.Spec PyProof.Rows L2
def rCatU : R2 := fun x y H Q => ∃ a b xs ys, x = .ref a ∧ y = .ref b ∧ H a = some (.tup xs) ∧ H b = some (.tup ys) ∧ xs.length + ys.length ≤ sizeLine ∧ ∀ p H', Same H H' → H' p = some (.tup (xs ++ ys)) → Q (.ref p) H'
theorem op_catU {X : Cx} : OpR X (binaryOp .Add) rCatU := by
  intro pins s σ H x y v u Q I rx ry h
  obtain ⟨a, b, xs, ys, rfl, rfl, ha, hb, hz, q⟩ := h
  refine op_catA pins s σ H _ _ v u Q I rx ry ⟨a, b, xs, ys, rfl, rfl, SqT.of ha, SqT.of hb, hz, fun e => ?_, fun _ e => ?_, fun _ _ p hp => q p _ (same_new hp _) upd_same⟩
  · subst e
    exact q b H (fun _ _ z => z) (by rw [hb, List.nil_append])
  · subst e
    exact q a H (fun _ _ z => z) (by rw [ha, List.append_nil])
def rSlU : V → Option Int → Option Int → Hp → VK → Prop := fun x lo hi H Q => ∃ a xs, x = .ref a ∧ H a = some (.tup xs) ∧ ∀ p H', Same H H' → H' p = some (.tup (cutV xs lo hi)) → Q (.ref p) H'
theorem sl_tupU {X : Cx} : SlR X rSlU := by
  intro pins s σ H x v vl vu lo hi sl Q I rx hs pl pu h
  obtain ⟨a, xs, rfl, ha, q⟩ := h
  refine sl_tupA pins s σ H _ v vl vu lo hi sl Q I rx hs pl pu ⟨a, xs, rfl, SqT.of ha, fun e => ?_, fun _ p hp => q p _ (same_new hp _) upd_same⟩
  refine q a H (fun _ _ z => z) ?_
  rw [ha]
  have : cutV xs lo hi = xs := by
    unfold cutV
    rw [e.1, e.2, List.drop_zero, Nat.sub_zero, List.take_length]
  rw [this]
/-! ### data: rows of numbers, grids, folds by a table -/
def iN (xs : List Nat) : List Int := xs.map fun n : Nat => (n : Int)
theorem iN_at {xs : List Nat} {j n : Nat} (h : xs[j]? = some n) : ((iN xs).map V.int)[j]? = some (.int (n : Nat)) := by
  unfold iN
  rw [List.getElem?_map, List.getElem?_map, h] <;> rfl
theorem iN_len {xs : List Nat} : ((iN xs).map V.int).length = xs.length := by unfold iN; rw [List.length_map, List.length_map]
theorem iN_snoc {xs : List Nat} {n : Nat} : (iN xs).map V.int ++ [.int (n : Nat)] = (iN (xs ++ [n])).map V.int := by unfold iN; rw [List.map_append, List.map_append] <;> rfl
theorem iN_app {xs ys : List Nat} : (iN xs).map V.int ++ (iN ys).map V.int = (iN (xs ++ ys)).map V.int := by unfold iN; rw [List.map_append, List.map_append]
theorem iN_mem {xs : List Nat} {y : V} {i : Nat} (h : ((iN xs).map V.int)[i]? = some y) : ∃ n : Nat, y = .int (n : Nat) ∧ xs[i]? = some n := by
  unfold iN at h
  rw [List.getElem?_map, List.getElem?_map] at h
  cases hx : xs[i]? with
  | none => rw [hx] at h; cases h
  | some n => rw [hx] at h; exact ⟨n, (Option.some.inj h).symm, rfl⟩
theorem getD_at {xs : List Nat} {j : Nat} (h : j < xs.length) : xs[j]? = some (xs.getD j 0) := by
  rw [List.getD_eq_getElem?_getD, List.getElem?_eq_getElem h] <;> rfl
theorem getD_mem {xs : List Nat} {j : Nat} (h : j < xs.length) : xs.getD j 0 ∈ xs := by
  rw [List.getD_eq_getElem?_getD, List.getElem?_eq_getElem h]
  exact List.getElem_mem h
theorem cut_to {xs : List V} (n : Nat) : cutV xs none (some (n : Int)) = xs.take n := by
  unfold cutV
  rw [HT.sIx_nat, HT.sIx_none, List.drop_zero, Nat.sub_zero]
  by_cases c : n ≤ xs.length
  · rw [Nat.min_eq_left c]
  · rw [Nat.min_eq_right (by omega), List.take_length, List.take_of_length_le (by omega)]
theorem cut_from {xs : List V} (n : Nat) : cutV xs (some (n : Int)) none = xs.drop n := by
  unfold cutV
  rw [HT.sIx_nat, HT.sIx_none]
  by_cases c : n ≤ xs.length
  · rw [Nat.min_eq_left c]
    exact List.take_of_length_le (by rw [List.length_drop]; omega)
  · rw [Nat.min_eq_right (by omega), Nat.sub_self, List.take_zero, List.drop_of_length_le (by omega)]
/-! ### data: a deed -/
structure Dd where
  add : Int
  low : Option Int
  high : Option Int
def oV : Option Int → V
  | none => .non
  | some i => .int i
def Dd.vs (d : Dd) : List V := [.int d.add, oV d.low, oV d.high]
def Dd.at_ (K : PySem.W.Frag) (H : Hp) (a : Addr) (d : Dd) : Prop := SqT K H a d.vs
/-- the ends stand right -/
def Dd.Ok (d : Dd) : Prop := ∀ l h, d.low = some l → d.high = some h → l < h ∨ (l = h ∧ d.add = 0)
def up (o : Option Int) (f : Int) : Int := match o with | none => f | some l => if f > l then f else l
def dn (o : Option Int) (f : Int) : Int := match o with | none => f | some h => if f < h then f else h
def Dd.ap (d : Dd) (v : Int) : Int := dn d.high (up d.low (v + d.add))
def hi (o : Option Int) (f : Int) : Int := match o with | none => f | some h => if f > h then h else f
def mk (d : Dd) (v : Int) : Int := match d.low with | none => hi d.high (v + d.add) | some l => if v + d.add < l then l else hi d.high (v + d.add)
theorem mk_eq {d : Dd} (ok : d.Ok) (v : Int) : mk d v = d.ap v := by
  obtain ⟨add, low, high⟩ := d
  have ok' := ok
  unfold Dd.Ok at ok'
  cases low with
  | none =>
    cases high with
    | none => rfl
    | some h =>
      show (if v + add > h then h else v + add) = if v + add < h then v + add else h
      by_cases c : v + add > h
      · rw [if_pos c, if_neg (by omega)]
      · rw [if_neg c]
        by_cases c2 : v + add < h
        · rw [if_pos c2]
        · rw [if_neg c2]; omega
  | some l =>
    cases high with
    | none =>
      show (if v + add < l then l else v + add) = if v + add > l then v + add else l
      by_cases c : v + add < l
      · rw [if_pos c, if_neg (by omega)]
      · rw [if_neg c]
        by_cases c2 : v + add > l
        · rw [if_pos c2]
        · rw [if_neg c2]; omega
    | some h =>
      have := ok' l h rfl rfl
      show (if v + add < l then l else if v + add > h then h else v + add) = if (if v + add > l then v + add else l) < h then (if v + add > l then v + add else l) else h
      by_cases c : v + add < l
      · rw [if_pos c, if_neg (show ¬ v + add > l by omega)]
        by_cases c2 : l < h
        · rw [if_pos c2]
        · rw [if_neg c2]; omega
      · rw [if_neg c]
        have e : (if v + add > l then v + add else l) = v + add := by
          by_cases c2 : v + add > l
          · rw [if_pos c2]
          · rw [if_neg c2]; omega
        rw [e]
        by_cases c2 : v + add > h
        · rw [if_pos c2, if_neg (by omega)]
        · rw [if_neg c2]
          by_cases c3 : v + add < h
          · rw [if_pos c3]
          · rw [if_neg c3]; omega
/-- all numbers of a deed are within b -/
def Dd.In (b : Int) (d : Dd) : Prop := -b ≤ d.add ∧ d.add ≤ b ∧ (∀ l, d.low = some l → -b ≤ l ∧ l ≤ b) ∧ ∀ l, d.high = some l → -b ≤ l ∧ l ≤ b
theorem in_mk {b add : Int} {low high : Option Int} (h1 : -b ≤ add) (h2 : add ≤ b) (hl : ∀ l, low = some l → -b ≤ l ∧ l ≤ b) (hh : ∀ l, high = some l → -b ≤ l ∧ l ≤ b) : Dd.In b ⟨add, low, high⟩ := ⟨h1, h2, hl, hh⟩
theorem in_none {b : Int} : ∀ l, (none : Option Int) = some l → -b ≤ l ∧ l ≤ b := fun _ h => nomatch h
theorem in_some {b x : Int} (h1 : -b ≤ x) (h2 : x ≤ b) : ∀ l, some x = some l → -b ≤ l ∧ l ≤ b := fun l h => by cases h; exact ⟨h1, h2⟩
theorem ap_in {b c : Int} {d : Dd} {v : Int} (h : d.In b) (h1 : -c ≤ v) (h2 : v ≤ c) (h0 : 0 ≤ c) : -(b + c) ≤ d.ap v ∧ d.ap v ≤ b + c := by
  obtain ⟨a1, a2, hl, hh⟩ := h
  unfold Dd.ap dn up
  cases el : d.low with
  | none =>
    cases eh : d.high with
    | none => dsimp only; omega
    | some k => have := hh k eh; dsimp only; split <;> omega
  | some l =>
    have := hl l el
    cases eh : d.high with
    | none => dsimp only; split <;> omega
    | some k => have := hh k eh; dsimp only; split <;> split <;> omega
theorem fits {i : Int} (h1 : -(10 ^ 40) ≤ i) (h2 : i ≤ 10 ^ 40) : i.natAbs.log2 < 1920 := by
  refine log_lt (by decide) (Nat.lt_of_le_of_lt (m := 10 ^ 40) (by omega) (by decide))
theorem menu7 : ∀ j : Nat, j < 7 → ∃ z : Int, ([.int 3, .int 5, .int 11, .int 17, .int 29, .int 37, .int 41] : List V)[j]? = some (.int z) ∧ 0 < z ∧ z ≤ 41
  | 0, _ => ⟨_, rfl, by decide, by decide⟩
  | 1, _ => ⟨_, rfl, by decide, by decide⟩
  | 2, _ => ⟨_, rfl, by decide, by decide⟩
  | 3, _ => ⟨_, rfl, by decide, by decide⟩
  | 4, _ => ⟨_, rfl, by decide, by decide⟩
  | 5, _ => ⟨_, rfl, by decide, by decide⟩
  | 6, _ => ⟨_, rfl, by decide, by decide⟩
  | n + 7, h => absurd h (by omega)
theorem menu6 : ∀ j : Nat, j < 6 → ∃ z : Int, ([.int 4, .int 12, .int 1000, .int (10 ^ Int.toNat 9), .int (10 ^ Int.toNat 29), .int (10 ^ Int.toNat 29)] : List V)[j]? = some (.int z) ∧ 1 ≤ z ∧ z ≤ 10 ^ 29
  | 0, _ => ⟨_, rfl, by decide, by decide⟩
  | 1, _ => ⟨_, rfl, by decide, by decide⟩
  | 2, _ => ⟨_, rfl, by decide, by decide⟩
  | 3, _ => ⟨_, rfl, by decide, by decide⟩
  | 4, _ => ⟨_, rfl, by decide, by decide⟩
  | 5, _ => ⟨_, rfl, by decide, by decide⟩
  | n + 6, h => absurd h (by omega)
def PotAt (H : Hp) (p : Addr) : Prop := ∃ a b : Int, H p = some (.lst [.int a, .int b]) ∧ 0 ≤ a ∧ 0 ≤ b ∧ b < 2 ^ 40
theorem PotAt.same {H H' : Hp} {p : Addr} (e : Same H H') (h : PotAt H p) : PotAt H' p := by
  obtain ⟨a, b, h1, h2⟩ := h
  exact ⟨a, b, e _ _ h1, h2⟩
def DeedArg (K : PySem.W.Frag) (H : Hp) (a : Addr) (d : Dd) : Prop := TyX K H (.ref a) (.type "tuple") ∧ SqT K H a d.vs ∧ d.Ok
def Dz (H : Hp) (a : Addr) (d : Dd) : Prop := H a = some (.tup d.vs) ∧ d.In (10 ^ 29 + 3) ∧ d.Ok
theorem Dz.arg {K : PySem.W.Frag} {H : Hp} {a : Addr} {d : Dd} (h : Dz H a d) : DeedArg K H a d := ⟨.base (.tup h.1), SqT.of h.1, h.2.2⟩
theorem Dz.same {H H' : Hp} {a : Addr} {d : Dd} (e : Same H H') (h : Dz H a d) : Dz H' a d := ⟨e _ _ h.1, h.2⟩
def look : Dd := ⟨0, none, none⟩
theorem look_ok : look.Ok := fun _ _ h => nomatch h
theorem look_in {b : Int} (h : 0 ≤ b) : look.In b := in_mk (by omega) (by omega) in_none in_none
theorem pot_ne {H : Hp} {p a : Addr} (h : PotAt H p) (n : H a = none) : a ≠ p := fun z => by obtain ⟨_, _, h1, _⟩ := h; rw [← z, n] at h1; cases h1
/-! ### two deeds as one -/
def wholeD (add : Int) (low high : Option Int) : Dd := if low ≠ none ∧ low = high then ⟨0, low, high⟩ else ⟨add, low, high⟩
theorem wholeD_low {add : Int} {low high : Option Int} : (wholeD add low high).low = low := by unfold wholeD; split <;> rfl
theorem wholeD_high {add : Int} {low high : Option Int} : (wholeD add low high).high = high := by unfold wholeD; split <;> rfl
theorem wholeD_add {add : Int} {low high : Option Int} : (wholeD add low high).add = if low ≠ none ∧ low = high then 0 else add := by unfold wholeD; split <;> rfl
def endBeh (b : Dd) (o p : Option Int) : Option Int := match o with | none => p | some l => some (b.ap l)
def beh (a b : Dd) : Dd := wholeD (a.add + b.add) (endBeh b a.low b.low) (endBeh b a.high b.high)
theorem up_mono {o : Option Int} {x y : Int} (h : x ≤ y) : up o x ≤ up o y := by
  cases o with
  | none => exact h
  | some l =>
    show (if x > l then x else l) ≤ (if y > l then y else l)
    split <;> split <;> omega
theorem dn_mono {o : Option Int} {x y : Int} (h : x ≤ y) : dn o x ≤ dn o y := by
  cases o with
  | none => exact h
  | some l =>
    show (if x < l then x else l) ≤ (if y < l then y else l)
    split <;> split <;> omega
theorem ap_mono (d : Dd) {x y : Int} (h : x ≤ y) : d.ap x ≤ d.ap y := dn_mono (up_mono (by omega))
/-- what is made, by the four ways -/
theorem ap_nn (d : Dd) (v : Int) (h1 : d.low = none) (h2 : d.high = none) : d.ap v = v + d.add := by unfold Dd.ap; rw [h1, h2] <;> rfl
theorem ap_sn (d : Dd) (v l : Int) (h1 : d.low = some l) (h2 : d.high = none) : d.ap v = if v + d.add > l then v + d.add else l := by unfold Dd.ap; rw [h1, h2] <;> rfl
theorem ap_ns (d : Dd) (v h : Int) (h1 : d.low = none) (h2 : d.high = some h) : d.ap v = if v + d.add < h then v + d.add else h := by unfold Dd.ap; rw [h1, h2] <;> rfl
theorem ap_ss (d : Dd) (v l h : Int) (h1 : d.low = some l) (h2 : d.high = some h) : d.ap v = if (if v + d.add > l then v + d.add else l) < h then (if v + d.add > l then v + d.add else l) else h := by unfold Dd.ap; rw [h1, h2] <;> rfl
/-- facts for omega -/
theorem ap_cases (d : Dd) (ok : d.Ok) (v : Int) :
    (∀ l, d.low = some l → l ≤ d.ap v ∧ (v + d.add ≤ l → d.ap v = l)) ∧ (∀ h, d.high = some h → d.ap v ≤ h ∧ (h ≤ v + d.add → d.ap v = h)) ∧
    ((d.low = none ∨ ∃ l, d.low = some l ∧ l ≤ v + d.add) → (d.high = none ∨ ∃ h, d.high = some h ∧ v + d.add ≤ h) → d.ap v = v + d.add) := by
  cases e1 : d.low with
  | none =>
    cases e2 : d.high with
    | none =>
      rw [ap_nn d v e1 e2]
      exact ⟨fun _ h => (nomatch h), fun _ h => (nomatch h), fun _ _ => rfl⟩
    | some h =>
      rw [ap_ns d v h e1 e2]
      refine ⟨fun _ h => (nomatch h), fun k hk => ?_, fun _ h2 => ?_⟩
      · cases hk; split <;> omega
      · rcases h2 with h2 | ⟨k, hk, h2⟩
        · cases h2
        · cases hk; split <;> omega
  | some l =>
    cases e2 : d.high with
    | none =>
      rw [ap_sn d v l e1 e2]
      refine ⟨fun k hk => ?_, fun _ h => (nomatch h), fun h1 _ => ?_⟩
      · cases hk; split <;> omega
      · rcases h1 with h1 | ⟨k, hk, h1⟩
        · cases h1
        · cases hk; split <;> omega
    | some h =>
      have o := ok l h e1 e2
      rw [ap_ss d v l h e1 e2]
      refine ⟨fun k hk => ?_, fun k hk => ?_, fun h1 h2 => ?_⟩
      · cases hk
        by_cases c : v + d.add > l
        · rw [if_pos c]; split <;> omega
        · rw [if_neg c]; split <;> omega
      · cases hk
        by_cases c : v + d.add > l
        · rw [if_pos c]; split <;> omega
        · rw [if_neg c]; split <;> omega
      · rcases h1 with h1 | ⟨k, hk, h1⟩
        · cases h1
        rcases h2 with h2 | ⟨k', hk', h2⟩
        · cases h2
        cases hk; cases hk'
        by_cases c : v + d.add > l
        · rw [if_pos c]; split <;> omega
        · rw [if_neg c]; split <;> omega
theorem beh_ok {a b : Dd} (ha : a.Ok) (hb : b.Ok) : (beh a b).Ok := by
  intro l h h1 h2
  unfold beh at h1 h2 ⊢
  rw [wholeD_low] at h1
  rw [wholeD_high] at h2
  rw [wholeD_add]
  have key : l ≤ h := by
    unfold endBeh at h1 h2
    cases e1 : a.low with
    | none =>
      rw [e1] at h1
      cases e2 : a.high with
      | none =>
        rw [e2] at h2
        have := hb l h h1 h2
        omega
      | some k =>
        rw [e2] at h2
        cases h2
        exact ((ap_cases b hb k).1 l h1).1
    | some j =>
      rw [e1] at h1
      cases h1
      cases e2 : a.high with
      | none =>
        rw [e2] at h2
        exact ((ap_cases b hb j).2.1 h h2).1
      | some k =>
        rw [e2] at h2
        cases h2
        have := ha j k e1 e2
        exact ap_mono b (by omega)
  by_cases c : l = h
  · right
    refine ⟨c, if_pos ⟨by rw [h1]; exact Option.some_ne_none l, by rw [h1, h2, c]⟩⟩
  · left; omega
/-- the ends of a deed -/
theorem ap_low {d : Dd} (ok : d.Ok) {l v : Int} (h : d.low = some l) (hv : v + d.add ≤ l) : d.ap v = l := ((ap_cases d ok v).1 l h).2 hv
theorem ap_high {d : Dd} (ok : d.Ok) {l v : Int} (h : d.high = some l) (hv : l ≤ v + d.add) : d.ap v = l := ((ap_cases d ok v).2.1 l h).2 hv
theorem whole_ap {add : Int} {low high : Option Int} {v w : Int} (hl : ∀ l, low = some l → l ≤ w) (hh : ∀ h, high = some h → w ≤ h)
    (h1 : (∀ l, low = some l → v + add ≤ l → w = l)) (h2 : (∀ h, high = some h → h ≤ v + add → w = h))
    (h3 : (low = none ∨ ∃ l, low = some l ∧ l ≤ v + add) → (high = none ∨ ∃ h, high = some h ∧ v + add ≤ h) → w = v + add) : (wholeD add low high).ap v = w := by
  cases e1 : low with
  | none =>
    have e3 : wholeD add none high = ⟨add, none, high⟩ := by unfold wholeD; rw [if_neg (fun z => z.1 rfl)]
    rw [e3]
    cases e2 : high with
    | none => rw [ap_nn _ _ rfl rfl]; exact (h3 (.inl e1) (.inl e2)).symm
    | some h =>
      rw [ap_ns _ _ h rfl rfl]
      show (if v + add < h then v + add else h) = w
      have a2 := h2 h e2
      have a3 := h3 (.inl e1)
      split
      · exact (a3 (.inr ⟨h, e2, by omega⟩)).symm
      · exact (a2 (by omega)).symm
  | some l =>
    have b1 := hl l e1
    cases e2 : high with
    | none =>
      have e3 : wholeD add (some l) none = ⟨add, some l, none⟩ := by unfold wholeD; rw [if_neg (fun z => nomatch z.2)]
      rw [e3, ap_sn _ _ l rfl rfl]
      show (if v + add > l then v + add else l) = w
      have a1 := h1 l e1
      split
      · exact (h3 (.inr ⟨l, e1, by omega⟩) (.inl e2)).symm
      · exact (a1 (by omega)).symm
    | some h =>
      have b2 := hh h e2
      by_cases c : l = h
      · subst c
        have e3 : wholeD add (some l) (some l) = ⟨0, some l, some l⟩ := by unfold wholeD; rw [if_pos ⟨Option.some_ne_none l, rfl⟩]
        rw [e3, ap_ss _ _ l l rfl rfl]
        split <;> omega
      · have e3 : wholeD add (some l) (some h) = ⟨add, some l, some h⟩ := by unfold wholeD; rw [if_neg (fun z => c (Option.some.inj z.2))]
        rw [e3, ap_ss _ _ l h rfl rfl]
        show (if (if v + add > l then v + add else l) < h then (if v + add > l then v + add else l) else h) = w
        have a1 := h1 l e1
        have a2 := h2 h e2
        by_cases c1 : v + add > l
        · rw [if_pos c1]
          split
          · exact (h3 (.inr ⟨l, e1, by omega⟩) (.inr ⟨h, e2, by omega⟩)).symm
          · exact (a2 (by omega)).symm
        · rw [if_neg c1]
          have := a1 (by omega)
          split <;> omega
theorem beh_ap {a b : Dd} (ha : a.Ok) (hb : b.Ok) (v : Int) : (beh a b).ap v = b.ap (a.ap v) := by
  obtain ⟨A1, A2, A3⟩ := ap_cases a ha v
  obtain ⟨B1, B2, B3⟩ := ap_cases b hb (a.ap v)
  have P3 : ∀ l, endBeh b a.low b.low = some l → v + (a.add + b.add) ≤ l → b.ap (a.ap v) = l := by
    intro l hl hv
    unfold endBeh at hl
    cases e : a.low with
    | none =>
      rw [e] at hl
      refine (B1 l hl).2 ?_
      cases e2 : a.high with
      | none => rw [A3 (.inl e) (.inl e2)]; omega
      | some k =>
        by_cases c : v + a.add ≤ k
        · rw [A3 (.inl e) (.inr ⟨k, e2, c⟩)]; omega
        · rw [(A2 k e2).2 (by omega)]; omega
    | some j =>
      rw [e] at hl
      cases hl
      -- v + a.add + b.add ≤ b.ap j
      by_cases c : v + a.add ≤ j
      · rw [(A1 j e).2 c]
      · have m : b.ap j ≤ b.ap (a.ap v) := ap_mono b (A1 j e).1
        have n : b.ap (a.ap v) ≤ b.ap (v + a.add) := by
          refine ap_mono b ?_
          cases e2 : a.high with
          | none => rw [A3 (.inr ⟨j, e, by omega⟩) (.inl e2)]; omega
          | some k =>
            by_cases c : v + a.add ≤ k
            · rw [A3 (.inr ⟨j, e, by omega⟩) (.inr ⟨k, e2, c⟩)]; omega
            · rw [(A2 k e2).2 (by omega)]; omega
        -- b at v + a.add is at most max of its sum and its low end
        obtain ⟨C1, C2, C3⟩ := ap_cases b hb (v + a.add)
        obtain ⟨D1, D2, D3⟩ := ap_cases b hb j
        cases f1 : b.low with
        | none =>
          cases f2 : b.high with
          | none => have := C3 (.inl f1) (.inl f2); have := D3 (.inl f1) (.inl f2); omega
          | some k =>
            have := C2 k f2; have := D2 k f2
            by_cases c3 : v + a.add + b.add ≤ k
            · have := C3 (.inl f1) (.inr ⟨k, f2, c3⟩); have := D3 (.inl f1) (.inr ⟨k, f2, by omega⟩); omega
            · omega
        | some i =>
          have := C1 i f1; have := D1 i f1
          cases f2 : b.high with
          | none =>
            by_cases c3 : i ≤ v + a.add + b.add
            · have := C3 (.inr ⟨i, f1, c3⟩) (.inl f2)
              by_cases c4 : i ≤ j + b.add
              · have := D3 (.inr ⟨i, f1, c4⟩) (.inl f2); omega
              · omega
            · omega
          | some k =>
            have := C2 k f2; have := D2 k f2
            by_cases c3 : i ≤ v + a.add + b.add
            · by_cases c5 : v + a.add + b.add ≤ k
              · have := C3 (.inr ⟨i, f1, c3⟩) (.inr ⟨k, f2, c5⟩)
                by_cases c4 : i ≤ j + b.add
                · have := D3 (.inr ⟨i, f1, c4⟩) (.inr ⟨k, f2, by omega⟩); omega
                · omega
              · omega
            · omega
  have P4 : ∀ h, endBeh b a.high b.high = some h → h ≤ v + (a.add + b.add) → b.ap (a.ap v) = h := by
    intro h hh hv
    unfold endBeh at hh
    cases e : a.high with
    | none =>
      rw [e] at hh
      refine (B2 h hh).2 ?_
      cases e2 : a.low with
      | none => rw [A3 (.inl e2) (.inl e)]; omega
      | some k =>
        by_cases c : k ≤ v + a.add
        · rw [A3 (.inr ⟨k, e2, c⟩) (.inl e)]; omega
        · rw [(A1 k e2).2 (by omega)]; omega
    | some j =>
      rw [e] at hh
      cases hh
      by_cases c : j ≤ v + a.add
      · rw [(A2 j e).2 c]
      · have m : b.ap (a.ap v) ≤ b.ap j := ap_mono b (A2 j e).1
        have n : b.ap (v + a.add) ≤ b.ap (a.ap v) := by
          refine ap_mono b ?_
          cases e2 : a.low with
          | none => rw [A3 (.inl e2) (.inr ⟨j, e, by omega⟩)]; omega
          | some k =>
            by_cases c : k ≤ v + a.add
            · rw [A3 (.inr ⟨k, e2, c⟩) (.inr ⟨j, e, by omega⟩)]; omega
            · rw [(A1 k e2).2 (by omega)]; omega
        obtain ⟨C1, C2, C3⟩ := ap_cases b hb (v + a.add)
        obtain ⟨D1, D2, D3⟩ := ap_cases b hb j
        cases f1 : b.high with
        | none =>
          cases f2 : b.low with
          | none => have := C3 (.inl f2) (.inl f1); have := D3 (.inl f2) (.inl f1); omega
          | some k =>
            have := C1 k f2; have := D1 k f2
            by_cases c3 : k ≤ v + a.add + b.add
            · have := C3 (.inr ⟨k, f2, c3⟩) (.inl f1); have := D3 (.inr ⟨k, f2, by omega⟩) (.inl f1); omega
            · omega
        | some i =>
          have := C2 i f1; have := D2 i f1
          cases f2 : b.low with
          | none =>
            by_cases c3 : v + a.add + b.add ≤ i
            · have := C3 (.inl f2) (.inr ⟨i, f1, c3⟩)
              by_cases c4 : j + b.add ≤ i
              · have := D3 (.inl f2) (.inr ⟨i, f1, c4⟩); omega
              · omega
            · omega
          | some k =>
            have := C1 k f2; have := D1 k f2
            by_cases c3 : v + a.add + b.add ≤ i
            · by_cases c5 : k ≤ v + a.add + b.add
              · have := C3 (.inr ⟨k, f2, c5⟩) (.inr ⟨i, f1, c3⟩)
                by_cases c4 : j + b.add ≤ i
                · have := D3 (.inr ⟨k, f2, by omega⟩) (.inr ⟨i, f1, c4⟩); omega
                · omega
              · omega
            · omega
  unfold beh
  refine whole_ap (fun l hl => ?_) (fun h hh => ?_) P3 P4 (fun h1 h2 => ?_)
  · unfold endBeh at hl
    cases e : a.low with
    | none => rw [e] at hl; exact (B1 l hl).1
    | some j => rw [e] at hl; cases hl; exact ap_mono b (A1 j e).1
  · unfold endBeh at hh
    cases e : a.high with
    | none => rw [e] at hh; exact (B2 h hh).1
    | some j => rw [e] at hh; cases hh; exact ap_mono b (A2 j e).1
  · -- between the ends both add
    by_cases s1 : ∃ l, endBeh b a.low b.low = some l ∧ v + (a.add + b.add) ≤ l
    · obtain ⟨l, s1, s2⟩ := s1
      rw [P3 l s1 s2]
      rcases h1 with h1 | ⟨l', h1, h4⟩
      · rw [s1] at h1; cases h1
      · rw [s1] at h1; cases h1; omega
    by_cases s2 : ∃ l, endBeh b a.high b.high = some l ∧ l ≤ v + (a.add + b.add)
    · obtain ⟨l, s2, s3⟩ := s2
      rw [P4 l s2 s3]
      rcases h2 with h2 | ⟨l', h2, h4⟩
      · rw [s2] at h2; cases h2
      · rw [s2] at h2; cases h2; omega
    have h1s : ∀ l, endBeh b a.low b.low = some l → l < v + (a.add + b.add) := fun l hl => Int.not_le.mp fun z => s1 ⟨l, hl, z⟩
    have h2s : ∀ l, endBeh b a.high b.high = some l → v + (a.add + b.add) < l := fun l hl => Int.not_le.mp fun z => s2 ⟨l, hl, z⟩
    have a1 : a.low = none ∨ ∃ l, a.low = some l ∧ l ≤ v + a.add := by
      cases e : a.low with
      | none => exact .inl rfl
      | some j =>
        right
        refine ⟨j, rfl, ?_⟩
        rcases h1 with h1 | ⟨l, h1, h4⟩
        · unfold endBeh at h1; rw [e] at h1; cases h1
        have st := h1s l h1
        unfold endBeh at h1; rw [e] at h1; cases h1
        by_cases c : j ≤ v + a.add
        · exact c
        obtain ⟨D1, D2, D3⟩ := ap_cases b hb j
        exfalso
        cases f2 : b.high with
        | none =>
          cases f1 : b.low with
          | none => have := D3 (.inl f1) (.inl f2); omega
          | some i => have := D1 i f1; by_cases c4 : i ≤ j + b.add; (have := D3 (.inr ⟨i, f1, c4⟩) (.inl f2); omega); omega
        | some k =>
          have := D2 k f2
          by_cases c5 : j + b.add ≤ k
          · cases f1 : b.low with
            | none => have := D3 (.inl f1) (.inr ⟨k, f2, c5⟩); omega
            | some i => have := D1 i f1; by_cases c4 : i ≤ j + b.add; (have := D3 (.inr ⟨i, f1, c4⟩) (.inr ⟨k, f2, c5⟩); omega); omega
          · have e5 : b.ap j = k := this.2 (by omega)
            -- the upper end is met: then high of both is k
            rcases h2 with h2 | ⟨h, h2, h6⟩
            · unfold endBeh at h2; cases e7 : a.high with
              | none => rw [e7] at h2; rw [f2] at h2; cases h2
              | some m => rw [e7] at h2; cases h2
            · unfold endBeh at h2; cases e7 : a.high with
              | none => rw [e7] at h2; rw [f2] at h2; cases h2; omega
              | some m =>
                rw [e7] at h2; cases h2
                have o := ha j m e e7
                have q1 := ap_mono b (show j ≤ m by omega)
                have q2 := ((ap_cases b hb m).2.1 k f2).1
                omega
    have a2 : a.high = none ∨ ∃ l, a.high = some l ∧ v + a.add ≤ l := by
      cases e : a.high with
      | none => exact .inl rfl
      | some j =>
        right
        refine ⟨j, rfl, ?_⟩
        rcases h2 with h2 | ⟨l, h2, h4⟩
        · unfold endBeh at h2; rw [e] at h2; cases h2
        have st := h2s l h2
        unfold endBeh at h2; rw [e] at h2; cases h2
        by_cases c : v + a.add ≤ j
        · exact c
        obtain ⟨D1, D2, D3⟩ := ap_cases b hb j
        exfalso
        cases f2 : b.low with
        | none =>
          cases f1 : b.high with
          | none => have := D3 (.inl f2) (.inl f1); omega
          | some i => have := D2 i f1; by_cases c4 : j + b.add ≤ i; (have := D3 (.inl f2) (.inr ⟨i, f1, c4⟩); omega); omega
        | some k =>
          have := D1 k f2
          by_cases c5 : k ≤ j + b.add
          · cases f1 : b.high with
            | none => have := D3 (.inr ⟨k, f2, c5⟩) (.inl f1); omega
            | some i => have := D2 i f1; by_cases c4 : j + b.add ≤ i; (have := D3 (.inr ⟨k, f2, c5⟩) (.inr ⟨i, f1, c4⟩); omega); omega
          · have e5 : b.ap j = k := this.2 (by omega)
            rcases h1 with h1 | ⟨h, h1, h6⟩
            · unfold endBeh at h1; cases e7 : a.low with
              | none => rw [e7] at h1; rw [f2] at h1; cases h1
              | some m => rw [e7] at h1; cases h1
            · unfold endBeh at h1; cases e7 : a.low with
              | none => rw [e7] at h1; rw [f2] at h1; cases h1; omega
              | some m =>
                rw [e7] at h1; cases h1
                have o := ha m j e7 e
                have q1 := ap_mono b (show m ≤ j by omega)
                have q2 := ((ap_cases b hb m).1 k f2).1
                omega
    have ea := A3 a1 a2
    rw [ea] at B1 B2 B3 ⊢
    have b1 : b.low = none ∨ ∃ l, b.low = some l ∧ l ≤ v + a.add + b.add := by
      cases f : b.low with
      | none => exact .inl rfl
      | some i =>
        refine .inr ⟨i, rfl, ?_⟩
        rcases h1 with h1 | ⟨l, h1, h4⟩
        · unfold endBeh at h1; cases e7 : a.low with
          | none => rw [e7] at h1; rw [f] at h1; cases h1
          | some m => rw [e7] at h1; cases h1
        · unfold endBeh at h1; cases e7 : a.low with
          | none => rw [e7] at h1; rw [f] at h1; cases h1; omega
          | some m => rw [e7] at h1; cases h1; have := ((ap_cases b hb m).1 i f).1; omega
    have b2 : b.high = none ∨ ∃ l, b.high = some l ∧ v + a.add + b.add ≤ l := by
      cases f : b.high with
      | none => exact .inl rfl
      | some i =>
        refine .inr ⟨i, rfl, ?_⟩
        rcases h2 with h2 | ⟨l, h2, h4⟩
        · unfold endBeh at h2; cases e7 : a.high with
          | none => rw [e7] at h2; rw [f] at h2; cases h2
          | some m => rw [e7] at h2; cases h2
        · unfold endBeh at h2; cases e7 : a.high with
          | none => rw [e7] at h2; rw [f] at h2; cases h2; omega
          | some m => rw [e7] at h2; cases h2; have := ((ap_cases b hb m).2.1 i f).1; omega
    rw [B3 b1 b2]; omega
theorem beh_in {a b : Dd} {x y : Int} (ha : a.In x) (hb : b.In y) (h0 : 0 ≤ x) (h1 : 0 ≤ y) : (beh a b).In (y + x) := by
  obtain ⟨a1, a2, a3, a4⟩ := ha
  have hb' := hb
  obtain ⟨b1, b2, b3, b4⟩ := hb
  refine ⟨?_, ?_, fun l hl => ?_, fun l hl => ?_⟩
  · unfold beh; rw [wholeD_add]; split <;> omega
  · unfold beh; rw [wholeD_add]; split <;> omega
  · unfold beh at hl; rw [wholeD_low] at hl; unfold endBeh at hl
    cases e : a.low with
    | none => rw [e] at hl; have := b3 l hl; omega
    | some j => rw [e] at hl; cases hl; exact ap_in hb' (a3 j e).1 (a3 j e).2 h0
  · unfold beh at hl; rw [wholeD_high] at hl; unfold endBeh at hl
    cases e : a.high with
    | none => rw [e] at hl; have := b4 l hl; omega
    | some j => rw [e] at hl; cases hl; exact ap_in hb' (a4 j e).1 (a4 j e).2 h0
/-- far out a deed shows its ends -/
theorem far_low {d : Dd} {b F : Int} (ok : d.Ok) (i : d.In b) (hF : 3 * b + 2 ≤ F) (h0 : 0 ≤ b) : (if d.ap (-F - 1) = d.ap (-F) then some (d.ap (-F)) else none) = d.low := by
  obtain ⟨i1, i2, i3, i4⟩ := i
  cases e : d.low with
  | some l =>
    have := i3 l e
    rw [ap_low ok e (show -F - 1 + d.add ≤ l by omega), ap_low ok e (show -F + d.add ≤ l by omega), if_pos rfl]
  | none =>
    have k : ∀ v : Int, v ≤ -F → d.ap v = v + d.add := fun v hv => by
      refine (ap_cases d ok v).2.2 (.inl e) ?_
      cases f : d.high with
      | none => exact .inl rfl
      | some h => have := i4 h f; exact .inr ⟨h, rfl, by omega⟩
    rw [k _ (by omega), k _ (by omega), if_neg (by omega)]
theorem far_high {d : Dd} {b F : Int} (ok : d.Ok) (i : d.In b) (hF : 3 * b + 2 ≤ F) (h0 : 0 ≤ b) : (if d.ap F = d.ap (F + 1) then some (d.ap F) else none) = d.high := by
  obtain ⟨i1, i2, i3, i4⟩ := i
  cases e : d.high with
  | some l =>
    have := i4 l e
    rw [ap_high ok e (show l ≤ F + 1 + d.add by omega), ap_high ok e (show l ≤ F + d.add by omega), if_pos rfl]
  | none =>
    have k : ∀ v : Int, F ≤ v → d.ap v = v + d.add := fun v hv => by
      refine (ap_cases d ok v).2.2 ?_ (.inl e)
      cases f : d.low with
      | none => exact .inl rfl
      | some h => have := i3 h f; exact .inr ⟨h, rfl, by omega⟩
    rw [k _ (by omega), k _ (by omega), if_neg (by omega)]
theorem bound_of (d : Dd) : ∃ b, 0 ≤ b ∧ d.In b := by
  obtain ⟨a, l, h⟩ := d
  refine ⟨a.natAbs + (l.getD 0).natAbs + (h.getD 0).natAbs, by omega, in_mk (by omega) (by omega) (fun x hx => ?_) fun x hx => ?_⟩
  · cases hx; simp only [Option.getD_some]; omega
  · cases hx; simp only [Option.getD_some]; omega
theorem In.le {d : Dd} {a b : Int} (h : d.In a) (e : a ≤ b) : d.In b := ⟨by have := h.1; omega, by have := h.2.1; omega, fun l hl => by have := h.2.2.1 l hl; omega, fun l hl => by have := h.2.2.2 l hl; omega⟩
/-- there is just one deed that makes the same of all -/
theorem ap_ext {d e : Dd} (hd : d.Ok) (he : e.Ok) (h : ∀ v, d.ap v = e.ap v) : d = e := by
  obtain ⟨b, b0, hb⟩ := bound_of d
  obtain ⟨c, c0, hc⟩ := bound_of e
  have l1 := far_low (F := 3 * (b + c) + 2) hd (In.le hb (show b ≤ b + c by omega)) (by omega) (by omega)
  have l2 := far_low (F := 3 * (b + c) + 2) he (In.le hc (show c ≤ b + c by omega)) (by omega) (by omega)
  have h1 := far_high (F := 3 * (b + c) + 2) hd (In.le hb (show b ≤ b + c by omega)) (by omega) (by omega)
  have h2 := far_high (F := 3 * (b + c) + 2) he (In.le hc (show c ≤ b + c by omega)) (by omega) (by omega)
  rw [h, h, l2] at l1
  rw [h, h, h2] at h1
  have ea : d.add = e.add := by
    cases e1 : d.low with
    | none =>
      cases e2 : d.high with
      | none =>
        have := h 0
        rw [ap_nn d 0 e1 e2, ap_nn e 0 (l1.trans e1) (h1.trans e2)] at this
        omega
      | some k =>
        have := h (k - 1 - b - c)
        have q1 := hb.1; have q2 := hb.2.1; have q3 := hc.1; have q4 := hc.2.1
        rw [ap_ns d _ k e1 e2, ap_ns e _ k (l1.trans e1) (h1.trans e2), if_pos (by omega), if_pos (by omega)] at this
        omega
    | some l =>
      cases e2 : d.high with
      | none =>
        have := h (l + 1 + b + c)
        have q1 := hb.1; have q2 := hb.2.1; have q3 := hc.1; have q4 := hc.2.1
        rw [ap_sn d _ l e1 e2, ap_sn e _ l (l1.trans e1) (h1.trans e2), if_pos (by omega), if_pos (by omega)] at this
        omega
      | some k =>
        have o1 := hd l k e1 e2
        have o2 := he l k (l1.trans e1) (h1.trans e2)
        by_cases c1 : l = k
        · omega
        · have g1 := h (l - d.add)
          have g2 := h (l - d.add + 1)
          obtain ⟨C1, C2, C3⟩ := ap_cases e he (l - d.add)
          obtain ⟨D1, D2, D3⟩ := ap_cases e he (l - d.add + 1)
          rw [ap_low hd e1 (by omega)] at g1
          rw [(ap_cases d hd (l - d.add + 1)).2.2 (.inr ⟨l, e1, by omega⟩) (.inr ⟨k, e2, by omega⟩)] at g2
          have := C1 l (l1.trans e1); have := C2 k (h1.trans e2); have := D1 l (l1.trans e1); have := D2 k (h1.trans e2)
          by_cases c2 : l ≤ l - d.add + e.add
          · by_cases c3 : l - d.add + e.add ≤ k
            · have := C3 (.inr ⟨l, l1.trans e1, c2⟩) (.inr ⟨k, h1.trans e2, c3⟩); omega
            · omega
          · by_cases c3 : l ≤ l - d.add + 1 + e.add
            · have := D3 (.inr ⟨l, l1.trans e1, c3⟩) (.inr ⟨k, h1.trans e2, by omega⟩); omega
            · omega
  obtain ⟨a1, a2, a3⟩ := d
  obtain ⟨b1, b2, b3⟩ := e
  cases ea; cases l1; cases h1
  rfl
theorem beh_assoc {a b c : Dd} (ha : a.Ok) (hb : b.Ok) (hc : c.Ok) : beh (beh a b) c = beh a (beh b c) :=
  ap_ext (beh_ok (beh_ok ha hb) hc) (beh_ok ha (beh_ok hb hc)) fun v => by rw [beh_ap (beh_ok ha hb) hc, beh_ap ha hb, beh_ap ha (beh_ok hb hc), beh_ap hb hc]
theorem look_ap (v : Int) : look.ap v = v := by show v + 0 = v; omega
theorem beh_look {a : Dd} (ha : a.Ok) : beh a look = a := ap_ext (beh_ok ha look_ok) ha fun v => by rw [beh_ap ha look_ok, look_ap]
theorem look_beh {a : Dd} (ha : a.Ok) : beh look a = a := ap_ext (beh_ok look_ok ha) ha fun v => by rw [beh_ap look_ok ha, look_ap]
/-! ### a deed as data -/
def po : Option Int → PyData
  | none => .none
  | some i => .int i
def pd (d : Dd) : PyData := .tuple [.int d.add, po d.low, po d.high]
theorem po_dp {K : PySem.W.Frag} {H : Hp} (o : Option Int) : Dp K H (oV o) (po o) := by
  cases o with
  | none => exact .non
  | some i => exact .int i
theorem pd_dp {K : PySem.W.Frag} {H : Hp} {a : Addr} {d : Dd} (h : SqT K H a d.vs) : Dp K H (.ref a) (pd d) := .tup h (.cons (.int _) (.cons (po_dp _) (.cons (po_dp _) .nil)))
theorem pd_sh (d : Dd) : SeqAt.shaped (pd d) = true := by
  obtain ⟨a, l, h⟩ := d
  cases l <;> cases h <;> rfl
theorem pd_refl (d : Dd) : PyData.eqv (pd d) (pd d) = true := SeqAt.eqv_refl _ (SeqAt.canLay_of_shaped (pd_sh d))
/-- a new tuple with a deed -/
def NewD (H : Hp) (Q : VK) (d : Dd) : Prop := ∀ (a : Addr) (H' : Hp), Same H H' → H a = none → H' a = some (.tup d.vs) → Q (.ref a) H'
abbrev Fx : Int := 10 ^ Int.toNat 64 * 10 ^ Int.toNat 26
theorem Fx_eq : Fx = 10 ^ 90 := by decide
theorem take_snoc {α : Type} {l : List α} {i : Nat} {x : α} (h : l[i]? = some x) : l.take (i + 1) = l.take i ++ [x] := by rw [List.take_succ, h] <;> rfl
/-- a deed's tuple that was made here -/
def Da (K : PySem.W.Frag) (H : Hp) (a : Addr) (d : Dd) : Prop := TupAt K H a d.vs ∧ d.In (10 ^ 89) ∧ d.Ok
theorem Da.arg {K : PySem.W.Frag} {H : Hp} {a : Addr} {d : Dd} (h : Da K H a d) : DeedArg K H a d := ⟨h.1.ty, h.1.sq, h.2.2⟩
theorem Da.same {K : PySem.W.Frag} {H H' : Hp} {a : Addr} {d : Dd} (e : Same H H') (h : Da K H a d) : Da K H' a d := ⟨h.1.same e, h.2⟩
theorem Da.sq {K : PySem.W.Frag} {H : Hp} {a : Addr} {d : Dd} (h : Da K H a d) : SqT K H a d.vs := h.1.sq
theorem Da.dp {K : PySem.W.Frag} {H : Hp} {a : Addr} {d : Dd} (h : Da K H a d) : Dp K H (.ref a) (pd d) := pd_dp h.sq
theorem ne_pd {d : Dd} : (!PyData.eqv (pd d) (pd d)) = false := by rw [pd_refl] <;> rfl
theorem addT {x : Int} {k : Bool} {p : Prop} [Decidable p] (h : k = true ↔ ¬ p) : x * (if k = true then 1 else 0) = if p then 0 else x := by
  by_cases c : p
  · rw [if_pos c, if_neg (fun z => h.mp z c)]; exact Int.mul_zero _
  · rw [if_neg c, if_pos (h.mpr c)]; exact Int.mul_one _
/-! ### a deed so many times -/
def agL (d : Dd) (f : Int) : Option Int := match d.low with
  | none => none
  | some l => some (if f > 0 then (match d.high with | none => l + f | some h => if l + f < h then l + f else h) else l)
def agH (d : Dd) (f : Int) : Option Int := match d.high with
  | none => none
  | some h => some (if f < 0 then (match d.low with | none => h + f | some l => if h + f > l then h + f else l) else h)
theorem agL_n {d : Dd} {f : Int} (h : d.low = none) : agL d f = none := by unfold agL; rw [h] <;> rfl
theorem agL_z {d : Dd} {f l : Int} (h : d.low = some l) (c : ¬ f > 0) : agL d f = some l := by unfold agL; rw [h]; dsimp only; rw [if_neg c]
theorem agL_p {d : Dd} {f l : Int} (h : d.low = some l) (g : d.high = none) (c : f > 0) : agL d f = some (l + f) := by unfold agL; rw [h, g]; dsimp only; rw [if_pos c]
theorem agL_q {d : Dd} {f l k : Int} (h : d.low = some l) (g : d.high = some k) (c : f > 0) : agL d f = some (if l + f < k then l + f else k) := by unfold agL; rw [h, g]; dsimp only; rw [if_pos c]
theorem agH_n {d : Dd} {f : Int} (h : d.high = none) : agH d f = none := by unfold agH; rw [h] <;> rfl
theorem agH_z {d : Dd} {f l : Int} (h : d.high = some l) (c : ¬ f < 0) : agH d f = some l := by unfold agH; rw [h]; dsimp only; rw [if_neg c]
theorem agH_p {d : Dd} {f l : Int} (h : d.high = some l) (g : d.low = none) (c : f < 0) : agH d f = some (l + f) := by unfold agH; rw [h, g]; dsimp only; rw [if_pos c]
theorem agH_q {d : Dd} {f l k : Int} (h : d.high = some l) (g : d.low = some k) (c : f < 0) : agH d f = some (if l + f > k then l + f else k) := by unfold agH; rw [h, g]; dsimp only; rw [if_pos c]
def agn (d : Dd) (n : Int) : Dd := wholeD (n * d.add) (agL d ((n - 1) * d.add)) (agH d ((n - 1) * d.add))
def Sg (d : Dd) (f : Int) : Prop := (0 < d.add → 0 ≤ f) ∧ (d.add < 0 → f ≤ 0) ∧ (d.add = 0 → f = 0)
theorem sg_mul (d : Dd) {n : Int} (h : 0 ≤ n) : Sg d (n * d.add) := by
  refine ⟨fun a => Int.mul_nonneg h (by omega), fun a => ?_, fun a => by rw [a]; exact Int.mul_zero _⟩
  have := Int.mul_nonneg h (show 0 ≤ -d.add by omega)
  rw [Int.mul_neg] at this
  omega
theorem agL_next {d : Dd} (ok : d.Ok) {f : Int} (s : Sg d f) : endBeh d (agL d f) d.low = agL d (f + d.add) := by
  obtain ⟨s1, s2, s3⟩ := s
  cases e1 : d.low with
  | none => unfold agL; rw [e1] <;> rfl
  | some l =>
    unfold agL endBeh
    rw [e1]
    cases e2 : d.high with
    | none =>
      show some (d.ap (if f > 0 then l + f else l)) = some (if f + d.add > 0 then l + (f + d.add) else l)
      rw [ap_sn d _ l e1 e2]
      congr 1
      by_cases c : f > 0
      · rw [if_pos c]
        by_cases c2 : f + d.add > 0
        · rw [if_pos c2, if_pos (by omega)]; omega
        · omega
      · rw [if_neg c]
        by_cases c2 : f + d.add > 0
        · rw [if_pos c2, if_pos (by omega)]; omega
        · rw [if_neg c2, if_neg (by omega)]
    | some h =>
      have o := ok l h e1 e2
      show some (d.ap (if f > 0 then (if l + f < h then l + f else h) else l)) = some (if f + d.add > 0 then (if l + (f + d.add) < h then l + (f + d.add) else h) else l)
      rw [ap_ss d _ l h e1 e2]
      congr 1
      by_cases c : f > 0
      · rw [if_pos c, if_pos (show f + d.add > 0 by omega)]
        by_cases c2 : l + f < h
        · rw [if_pos c2, if_pos (show l + f + d.add > l by omega)]
          by_cases c3 : l + f + d.add < h
          · rw [if_pos c3, if_pos (by omega)]; omega
          · rw [if_neg c3, if_neg (by omega)]
        · rw [if_neg c2, if_neg (show ¬ l + (f + d.add) < h by omega)]
          by_cases c4 : h + d.add > l
          · rw [if_pos c4, if_neg (by omega)]
          · rw [if_neg c4]; split <;> omega
      · rw [if_neg c]
        by_cases c3 : f + d.add > 0
        · rw [if_pos c3, if_pos (show l + d.add > l by omega)]
          by_cases c2 : l + d.add < h
          · rw [if_pos c2, if_pos (by omega)]; omega
          · rw [if_neg c2, if_neg (by omega)]
        · rw [if_neg c3, if_neg (show ¬ l + d.add > l by omega)]
          split <;> omega
theorem agH_next {d : Dd} (ok : d.Ok) {f : Int} (s : Sg d f) : endBeh d (agH d f) d.high = agH d (f + d.add) := by
  obtain ⟨s1, s2, s3⟩ := s
  cases e2 : d.high with
  | none => unfold agH; rw [e2] <;> rfl
  | some h =>
    unfold agH endBeh
    rw [e2]
    cases e1 : d.low with
    | none =>
      show some (d.ap (if f < 0 then h + f else h)) = some (if f + d.add < 0 then h + (f + d.add) else h)
      rw [ap_ns d _ h e1 e2]
      congr 1
      by_cases c : f < 0
      · rw [if_pos c]
        by_cases c2 : f + d.add < 0
        · rw [if_pos c2, if_pos (by omega)]; omega
        · omega
      · rw [if_neg c]
        by_cases c2 : f + d.add < 0
        · rw [if_pos c2, if_pos (by omega)]; omega
        · rw [if_neg c2, if_neg (by omega)]
    | some l =>
      have o := ok l h e1 e2
      show some (d.ap (if f < 0 then (if h + f > l then h + f else l) else h)) = some (if f + d.add < 0 then (if h + (f + d.add) > l then h + (f + d.add) else l) else h)
      rw [ap_ss d _ l h e1 e2]
      congr 1
      by_cases c : f < 0
      · rw [if_pos c, if_pos (show f + d.add < 0 by omega)]
        by_cases c2 : h + f > l
        · rw [if_pos c2]
          by_cases c3 : h + f + d.add > l
          · rw [if_pos c3, if_pos (show h + f + d.add < h by omega), if_pos (by omega)]; omega
          · rw [if_neg c3, if_neg (show ¬ h + (f + d.add) > l by omega)]; split <;> omega
        · rw [if_neg c2, if_neg (show ¬ h + (f + d.add) > l by omega), if_neg (show ¬ l + d.add > l by omega)]
          split <;> omega
      · rw [if_neg c]
        by_cases c3 : f + d.add < 0
        · rw [if_pos c3]
          by_cases c2 : h + d.add > l
          · rw [if_pos c2, if_pos (by omega), if_pos (by omega)]; omega
          · rw [if_neg c2, if_neg (show ¬ h + (f + d.add) > l by omega)]; split <;> omega
        · rw [if_neg c3]
          by_cases c4 : h + d.add > l
          · rw [if_pos c4, if_neg (by omega)]
          · rw [if_neg c4]; split <;> omega
theorem agL_zero (d : Dd) : agL d 0 = d.low := by unfold agL; cases d.low <;> rfl
theorem agH_zero (d : Dd) : agH d 0 = d.high := by unfold agH; cases d.high <;> rfl
theorem wholeD_self {d : Dd} (ok : d.Ok) : wholeD d.add d.low d.high = d := by
  unfold wholeD
  by_cases c : d.low ≠ none ∧ d.low = d.high
  · rw [if_pos c]
    cases e : d.low with
    | none => exact absurd e c.1
    | some l =>
      have := ok l l e (c.2.symm.trans e)
      obtain ⟨a, x, y⟩ := d
      have h0 : a = 0 := by
        have : (⟨a, x, y⟩ : Dd).add = 0 := by omega
        exact this
      subst h0
      have e' : x = some l := e
      subst e'
      rfl
  · rw [if_neg c]
theorem agn_one {d : Dd} (ok : d.Ok) : agn d 1 = d := by
  unfold agn
  rw [show ((1 : Int) - 1) * d.add = 0 from Int.zero_mul _, agL_zero, agH_zero, Int.one_mul]
  exact wholeD_self ok
theorem wholeD_eq {a b : Int} {L H : Option Int} (h : ¬ (L ≠ none ∧ L = H) → a = b) : wholeD a L H = wholeD b L H := by
  unfold wholeD
  by_cases c : L ≠ none ∧ L = H
  · rw [if_pos c, if_pos c]
  · rw [if_neg c, if_neg c, h c]
theorem agn_succ {d : Dd} (ok : d.Ok) {n : Int} (h : 1 ≤ n) : agn d (n + 1) = beh (agn d n) d := by
  have s : Sg d ((n - 1) * d.add) := sg_mul d (by omega)
  have ef : (n + 1 - 1) * d.add = (n - 1) * d.add + d.add := by
    rw [Int.add_sub_cancel, Int.sub_mul, Int.one_mul]; omega
  unfold beh
  rw [show (agn d n).low = agL d ((n - 1) * d.add) from wholeD_low, show (agn d n).high = agH d ((n - 1) * d.add) from wholeD_high, agL_next ok s, agH_next ok s, ← ef]
  show wholeD ((n + 1) * d.add) _ _ = _
  refine wholeD_eq fun c => ?_
  have c2 : ¬ (agL d ((n - 1) * d.add) ≠ none ∧ agL d ((n - 1) * d.add) = agH d ((n - 1) * d.add)) := by
    rintro ⟨z1, z2⟩
    refine c ⟨?_, ?_⟩
    · rw [ef, ← agL_next ok s]
      cases e : agL d ((n - 1) * d.add) with
      | none => exact absurd e z1
      | some l => exact Option.some_ne_none _
    · rw [ef, ← agL_next ok s, ← agH_next ok s, ← z2]
      cases e : agL d ((n - 1) * d.add) with
      | none => exact absurd e z1
      | some l => rfl
  rw [show (agn d n).add = _ from wholeD_add, if_neg c2, Int.add_mul, Int.one_mul]
def pw (d : Dd) : Nat → Dd
  | 0 => look
  | n + 1 => beh (pw d n) d
theorem pw_ok {d : Dd} (ok : d.Ok) : ∀ n, (pw d n).Ok
  | 0 => look_ok
  | n + 1 => beh_ok (pw_ok ok n) ok
theorem pw_one {d : Dd} (ok : d.Ok) : pw d 1 = d := look_beh ok
theorem agn_pw {d : Dd} (ok : d.Ok) : ∀ n : Nat, agn d ((n : Int) + 1) = pw d (n + 1)
  | 0 => by rw [pw_one ok]; exact agn_one ok
  | n + 1 => by
    rw [show ((n + 1 : Nat) : Int) + 1 = ((n : Int) + 1) + 1 by omega, agn_succ ok (by omega), agn_pw ok n] <;> rfl
theorem pw_add {d : Dd} (ok : d.Ok) (m : Nat) : ∀ n, pw d (m + n) = beh (pw d m) (pw d n)
  | 0 => (beh_look (pw_ok ok m)).symm
  | n + 1 => by
    show beh (pw d (m + n)) d = beh (pw d m) (beh (pw d n) d)
    rw [pw_add ok m n, beh_assoc (pw_ok ok m) (pw_ok ok n) ok]
theorem pw_mul {d : Dd} (ok : d.Ok) (m : Nat) : ∀ n, pw (pw d m) n = pw d (m * n)
  | 0 => rfl
  | n + 1 => by
    show beh (pw (pw d m) n) (pw d m) = _
    rw [pw_mul ok m n, Nat.mul_succ, pw_add ok]
theorem pw_in {d : Dd} {b : Int} (i : d.In b) (h : 0 ≤ b) : ∀ n : Nat, (pw d n).In (n * b)
  | 0 => by
    refine look_in ?_
    show (0 : Int) ≤ (0 : Nat) * b
    rw [show ((0 : Nat) : Int) = 0 from rfl, Int.zero_mul]
    exact Int.le_refl 0
  | n + 1 => by
    have := beh_in (pw_in i h n) i (Int.mul_nonneg (by omega) h) h
    rw [show ((n + 1 : Nat) : Int) * b = b + n * b by rw [Int.natCast_add, Int.add_mul]; omega]
    exact this
/-! ### where two deeds part -/
theorem seg_right {d : Dd} (ok : d.Ok) {p v : Int} (hpv : p < v) (hl : ∀ l, d.low = some l → ¬ (p < l - d.add ∧ l - d.add < v)) (hh : ∀ l, d.high = some l → ¬ (p < l - d.add ∧ l - d.add < v)) :
    (d.ap (p + 1) = d.ap p ∧ d.ap v = d.ap p) ∨ (d.ap (p + 1) = d.ap p + 1 ∧ d.ap v = d.ap p + (v - p)) := by
  cases e1 : d.low with
  | none =>
    cases e2 : d.high with
    | none => right; rw [ap_nn d _ e1 e2, ap_nn d _ e1 e2, ap_nn d _ e1 e2]; omega
    | some h =>
      have := hh h e2
      rw [ap_ns d _ h e1 e2, ap_ns d _ h e1 e2, ap_ns d _ h e1 e2]
      by_cases c : p + d.add < h
      · right
        rw [if_pos c]
        constructor
        · split <;> omega
        · split <;> omega
      · left
        rw [if_neg c, if_neg (by omega), if_neg (by omega)]
        exact ⟨rfl, rfl⟩
  | some l =>
    have := hl l e1
    cases e2 : d.high with
    | none =>
      rw [ap_sn d _ l e1 e2, ap_sn d _ l e1 e2, ap_sn d _ l e1 e2]
      by_cases c : l ≤ p + d.add
      · right
        have e : (if p + d.add > l then p + d.add else l) = p + d.add := by split <;> omega
        rw [e, if_pos (by omega), if_pos (by omega)]
        omega
      · left
        rw [if_neg (show ¬ p + d.add > l by omega), if_neg (show ¬ p + 1 + d.add > l by omega), if_neg (show ¬ v + d.add > l by omega)]
        exact ⟨rfl, rfl⟩
    | some h =>
      have := hh h e2
      have o := ok l h e1 e2
      have A := ap_cases d ok p
      have B := ap_cases d ok (p + 1)
      have C := ap_cases d ok v
      have A1 := A.1 l e1; have A2 := A.2.1 h e2
      have B1 := B.1 l e1; have B2 := B.2.1 h e2
      have C1 := C.1 l e1; have C2 := C.2.1 h e2
      by_cases c : l ≤ p + d.add
      · have A3 := A.2.2 (.inr ⟨l, e1, c⟩)
        by_cases c2 : p + d.add < h
        · have A4 := A3 (.inr ⟨h, e2, by omega⟩)
          have B4 := B.2.2 (.inr ⟨l, e1, by omega⟩) (.inr ⟨h, e2, by omega⟩)
          have C4 := C.2.2 (.inr ⟨l, e1, by omega⟩) (.inr ⟨h, e2, by omega⟩)
          right; omega
        · left; omega
      · left; omega
theorem seg_left {d : Dd} (ok : d.Ok) {p v : Int} (hpv : v < p) (hl : ∀ l, d.low = some l → ¬ (v < l - d.add ∧ l - d.add < p)) (hh : ∀ l, d.high = some l → ¬ (v < l - d.add ∧ l - d.add < p)) :
    (d.ap (p - 1) = d.ap p ∧ d.ap v = d.ap p) ∨ (d.ap (p - 1) = d.ap p - 1 ∧ d.ap v = d.ap p - (p - v)) := by
  cases e1 : d.low with
  | none =>
    cases e2 : d.high with
    | none => right; rw [ap_nn d _ e1 e2, ap_nn d _ e1 e2, ap_nn d _ e1 e2]; omega
    | some h =>
      have := hh h e2
      rw [ap_ns d _ h e1 e2, ap_ns d _ h e1 e2, ap_ns d _ h e1 e2]
      by_cases c : p + d.add ≤ h
      · right
        have e : (if p + d.add < h then p + d.add else h) = p + d.add := by split <;> omega
        rw [e, if_pos (by omega), if_pos (by omega)]
        omega
      · left
        rw [if_neg (show ¬ p + d.add < h by omega), if_neg (show ¬ p - 1 + d.add < h by omega), if_neg (show ¬ v + d.add < h by omega)]
        exact ⟨rfl, rfl⟩
  | some l =>
    have := hl l e1
    cases e2 : d.high with
    | none =>
      rw [ap_sn d _ l e1 e2, ap_sn d _ l e1 e2, ap_sn d _ l e1 e2]
      by_cases c : p + d.add > l
      · right
        rw [if_pos c]
        constructor
        · split <;> omega
        · split <;> omega
      · left
        rw [if_neg c, if_neg (by omega), if_neg (by omega)]
        exact ⟨rfl, rfl⟩
    | some h =>
      have := hh h e2
      have o := ok l h e1 e2
      have A := ap_cases d ok p
      have B := ap_cases d ok (p - 1)
      have C := ap_cases d ok v
      have A1 := A.1 l e1; have A2 := A.2.1 h e2
      have B1 := B.1 l e1; have B2 := B.2.1 h e2
      have C1 := C.1 l e1; have C2 := C.2.1 h e2
      by_cases c : p + d.add ≤ h
      · by_cases c2 : l < p + d.add
        · have A4 := A.2.2 (.inr ⟨l, e1, by omega⟩) (.inr ⟨h, e2, by omega⟩)
          have B4 := B.2.2 (.inr ⟨l, e1, by omega⟩) (.inr ⟨h, e2, by omega⟩)
          have C4 := C.2.2 (.inr ⟨l, e1, by omega⟩) (.inr ⟨h, e2, by omega⟩)
          right; omega
        · left; omega
      · left; omega
theorem greatest : ∀ (L : List Int) (v : Int), (∃ p, p ∈ L ∧ p ≤ v ∧ ∀ q ∈ L, q ≤ v → q ≤ p) ∨ ∀ q ∈ L, v < q
  | [], _ => .inr fun _ h => nomatch h
  | x :: r, v => by
    rcases greatest r v with ⟨p, h1, h2, h3⟩ | h
    · left
      by_cases c : x ≤ v ∧ p < x
      · exact ⟨x, List.mem_cons_self, c.1, fun q hq hv => by rcases List.mem_cons.mp hq with rfl | hq; exact Int.le_refl _; have := h3 q hq hv; omega⟩
      · exact ⟨p, List.mem_cons_of_mem _ h1, h2, fun q hq hv => by rcases List.mem_cons.mp hq with rfl | hq; omega; exact h3 q hq hv⟩
    · by_cases c : x ≤ v
      · exact .inl ⟨x, List.mem_cons_self, c, fun q hq hv => by rcases List.mem_cons.mp hq with rfl | hq; exact Int.le_refl _; have := h q hq; omega⟩
      · exact .inr fun q hq => by rcases List.mem_cons.mp hq with rfl | hq; omega; exact h q hq
theorem least : ∀ (L : List Int), L = [] ∨ ∃ p, p ∈ L ∧ ∀ q ∈ L, p ≤ q
  | [] => .inl rfl
  | x :: r => by
    right
    rcases least r with rfl | ⟨p, h1, h2⟩
    · exact ⟨x, List.mem_cons_self, fun q hq => by rcases List.mem_cons.mp hq with rfl | hq; exact Int.le_refl _; exact nomatch hq⟩
    · by_cases c : x ≤ p
      · exact ⟨x, List.mem_cons_self, fun q hq => by rcases List.mem_cons.mp hq with rfl | hq; exact Int.le_refl _; have := h2 q hq; omega⟩
      · exact ⟨p, List.mem_cons_of_mem _ h1, fun q hq => by rcases List.mem_cons.mp hq with rfl | hq; omega; exact h2 q hq⟩
def brkO (add : Int) : Option Int → List Int
  | none => []
  | some l => [l - add]
def brk (d : Dd) : List Int := brkO d.add d.low ++ brkO d.add d.high
theorem brk_low {d : Dd} {l : Int} (h : d.low = some l) : l - d.add ∈ brk d := by unfold brk; rw [h]; exact List.mem_append_left _ List.mem_cons_self
theorem brk_high {d : Dd} {l : Int} (h : d.high = some l) : l - d.add ∈ brk d := by unfold brk; rw [h]; exact List.mem_append_right _ List.mem_cons_self
theorem brk_agree {d e : Dd} (od : d.Ok) (oe : e.Ok) (h0 : d.ap 0 = e.ap 0) (h : ∀ p ∈ brk d ++ brk e, d.ap (p - 1) = e.ap (p - 1) ∧ d.ap p = e.ap p ∧ d.ap (p + 1) = e.ap (p + 1)) : d = e := by
  refine ap_ext od oe fun v => ?_
  rcases greatest (brk d ++ brk e) v with ⟨p, h1, h2, h3⟩ | h3
  · obtain ⟨g1, g2, g3⟩ := h p h1
    by_cases c : p = v
    · rw [← c]; exact g2
    · have R1 := seg_right od (show p < v by omega) (fun l hl z => by have := h3 _ (List.mem_append_left _ (brk_low hl)); omega) (fun l hl z => by have := h3 _ (List.mem_append_left _ (brk_high hl)); omega)
      have R2 := seg_right oe (show p < v by omega) (fun l hl z => by have := h3 _ (List.mem_append_right _ (brk_low hl)); omega) (fun l hl z => by have := h3 _ (List.mem_append_right _ (brk_high hl)); omega)
      omega
  · rcases least (brk d ++ brk e) with e0 | ⟨p, h1, h2⟩
    · have n1 : d.low = none := by cases q : d.low with | none => rfl | some l => have := List.mem_append_left (brk e) (brk_low q); rw [e0] at this; cases this
      have n2 : d.high = none := by cases q : d.high with | none => rfl | some l => have := List.mem_append_left (brk e) (brk_high q); rw [e0] at this; cases this
      have n3 : e.low = none := by cases q : e.low with | none => rfl | some l => have := List.mem_append_right (brk d) (brk_low q); rw [e0] at this; cases this
      have n4 : e.high = none := by cases q : e.high with | none => rfl | some l => have := List.mem_append_right (brk d) (brk_high q); rw [e0] at this; cases this
      rw [ap_nn d _ n1 n2, ap_nn e _ n3 n4] at h0 ⊢
      omega
    · obtain ⟨g1, g2, g3⟩ := h p h1
      have c := h3 p h1
      have R1 := seg_left od c (fun l hl z => by have := h2 _ (List.mem_append_left _ (brk_low hl)); omega) (fun l hl z => by have := h2 _ (List.mem_append_left _ (brk_high hl)); omega)
      have R2 := seg_left oe c (fun l hl z => by have := h2 _ (List.mem_append_right _ (brk_low hl)); omega) (fun l hl z => by have := h2 _ (List.mem_append_right _ (brk_high hl)); omega)
      omega
def cornO (add : Int) (o : Option Int) : List Int := match o with
  | none => []
  | some l => [l - add - 1, l - add, l - add + 1]
def corn (d : Dd) : List Int := cornO d.add d.low ++ cornO d.add d.high
theorem corn_of {d : Dd} {p : Int} (h : p ∈ brk d) : p - 1 ∈ corn d ∧ p ∈ corn d ∧ p + 1 ∈ corn d := by
  have key : ∀ o : Option Int, p ∈ brkO d.add o → p - 1 ∈ cornO d.add o ∧ p ∈ cornO d.add o ∧ p + 1 ∈ cornO d.add o := by
    intro o ho
    cases o with
    | none => cases ho
    | some l =>
      have e : p = l - d.add := by simpa [brkO] using ho
      subst e
      simp [cornO]
  rcases List.mem_append.mp h with h | h
  · obtain ⟨a, b, c⟩ := key _ h
    exact ⟨List.mem_append_left _ a, List.mem_append_left _ b, List.mem_append_left _ c⟩
  · obtain ⟨a, b, c⟩ := key _ h
    exact ⟨List.mem_append_right _ a, List.mem_append_right _ b, List.mem_append_right _ c⟩
theorem corn_agree {d e : Dd} (od : d.Ok) (oe : e.Ok) (h : ∀ v ∈ [0] ++ corn d ++ corn e, d.ap v = e.ap v) : d = e := by
  refine brk_agree od oe (h 0 (by simp)) fun p hp => ?_
  rcases List.mem_append.mp hp with hp | hp
  · obtain ⟨a, b, c⟩ := corn_of hp
    exact ⟨h _ (by simp [a]), h _ (by simp [b]), h _ (by simp [c])⟩
  · obtain ⟨a, b, c⟩ := corn_of hp
    exact ⟨h _ (by simp [a]), h _ (by simp [b]), h _ (by simp [c])⟩
theorem corn_len (d : Dd) : (corn d).length ≤ 6 := by
  unfold corn
  rw [List.length_append]
  have c3 : ∀ o : Option Int, (cornO d.add o).length ≤ 3 := fun o => by cases o <;> simp [cornO]
  have := c3 d.low; have := c3 d.high; omega
/-! ### shown data: one look -/
structure Sh (d : PyData) (n c : Nat) : Prop where
  s : d.showable = true
  dep : d.depth ≤ n
  c : cst d ≤ c
theorem shAll {α : Type} {f : α → PyData} {n c : Nat} : ∀ {xs : List α}, (∀ x ∈ xs, Sh (f x) n c) → PyData.showableAll (xs.map f) = true ∧ PyData.depthAll (xs.map f) ≤ n ∧ csts (xs.map f) ≤ (c + 4) * xs.length
  | [], _ => ⟨rfl, Nat.zero_le _, Nat.zero_le _⟩
  | x :: r, h => by
    obtain ⟨h1, h2, h3⟩ := shAll (xs := r) fun y hy => h y (List.mem_cons_of_mem _ hy)
    obtain ⟨g1, g2, g3⟩ := h x List.mem_cons_self
    refine ⟨?_, ?_, ?_⟩
    · simp only [List.map_cons, PyData.showableAll, g1, h1, Bool.and_self]
    · simp only [List.map_cons, PyData.depthAll]; omega
    · simp only [List.map_cons, csts, List.length_cons, Nat.mul_add, Nat.mul_one]; omega
theorem Sh.tup {α : Type} {f : α → PyData} {n c m k j : Nat} {xs : List α} (h : ∀ x ∈ xs, Sh (f x) n c) (hm : n + 1 ≤ m) (hl : xs.length ≤ j) (hk : (c + 4) * j + 4 ≤ k) : Sh (.tuple (xs.map f)) m k := by
  obtain ⟨h1, h2, h3⟩ := shAll h
  have h4 := Nat.mul_le_mul_left (c + 4) hl
  refine ⟨h1, ?_, ?_⟩
  · simp only [PyData.depth]; omega
  · show csts _ + 4 ≤ k; omega
theorem Sh.lst {α : Type} {f : α → PyData} {n c m k j : Nat} {xs : List α} (h : ∀ x ∈ xs, Sh (f x) n c) (hm : n + 1 ≤ m) (hl : xs.length ≤ j) (hk : (c + 4) * j + 4 ≤ k) : Sh (.list (xs.map f)) m k := by
  obtain ⟨h1, h2, h3⟩ := shAll h
  have h4 := Nat.mul_le_mul_left (c + 4) hl
  refine ⟨h1, ?_, ?_⟩
  · simp only [PyData.depth]; omega
  · show csts _ + 4 ≤ k; omega
theorem int_sh {i : Int} (h1 : -(10 ^ 100) ≤ i) (h2 : i ≤ 10 ^ 100) : Sh (.int i) 0 1921 := by
  refine ⟨?_, Nat.le_refl _, Nat.le_refl _⟩
  have : i.natAbs.log2 < 1920 := log_lt (by decide) (Nat.lt_of_le_of_lt (m := 10 ^ 100) (by omega) (by decide))
  simpa [PyData.showable] using this
theorem Sh.mono {d : PyData} {n c n' c' : Nat} (h : Sh d n c) (h1 : n ≤ n') (h2 : c ≤ c') : Sh d n' c' := ⟨h.s, Nat.le_trans h.dep h1, Nat.le_trans h.c h2⟩
theorem rep_ {K : PySem.W.Frag} {σ : L2.St} {H : Hp} {x : V} {d : PyData} {n c : Nat} {Q : VK} (hd : Dp K H x d) (s : Sh d n c) (hn : n ≤ 60 := by decide) (hc : c ≤ 10000000 := by decide) (q : Q (.str d.shown) H) :
    tNil σ H (fun xs H2 => (fun vs H1 => rRepr K vs H1 Q) (x :: xs) H2) :=
  ⟨x, d, rfl, hd, s.s, Nat.le_trans s.dep hn, shown_sz s.s (dp_noDict d x hd) (Nat.le_trans s.c hc), q⟩
theorem dps {α : Type} {K : PySem.W.Frag} {H : Hp} {g : α → V} {f : α → PyData} : ∀ {xs : List α}, (∀ x ∈ xs, Dp K H (g x) (f x)) → DpAll K H (xs.map g) (xs.map f)
  | [], _ => .nil
  | x :: r, h => .cons (h x List.mem_cons_self) (dps fun y hy => h y (List.mem_cons_of_mem _ hy))
theorem po_sh {b : Int} {o : Option Int} (h : ∀ l, o = some l → -b ≤ l ∧ l ≤ b) (hb : b ≤ 10 ^ 100) : Sh (po o) 0 1921 := by
  cases o with
  | none => exact ⟨rfl, Nat.le_refl _, by show 5 ≤ 1921; decide⟩
  | some i => have := h i rfl; exact int_sh (by omega) (by omega)
theorem pd_sh1 {b : Int} {d : Dd} (h : d.In b) (hb : b ≤ 10 ^ 100) : Sh (pd d) 1 6000 := by
  have := h.1; have := h.2.1
  refine Sh.tup (f := id) (n := 0) (c := 1921) (j := 3) (xs := [.int d.add, po d.low, po d.high]) ?_ (Nat.le_refl _) (Nat.le_refl _) (by decide)
  intro x hx
  simp only [List.mem_cons, List.mem_nil_iff, or_false] at hx
  rcases hx with rfl | rfl | rfl
  · exact int_sh (by omega) (by omega)
  · exact po_sh h.2.2.1 hb
  · exact po_sh h.2.2.2 hb
/-! ### boards and asks -/
def BoardAt (H : Hp) (b : Addr) (bs : List Int) : Prop := H b = some (.tup (bs.map V.int)) ∧ 1 ≤ bs.length ∧ bs.length ≤ 16
def Wi (c : Int) (bs : List Int) : Prop := ∀ x ∈ bs, -c ≤ x ∧ x ≤ c
theorem BoardAt.same {H H' : Hp} {b : Addr} {bs : List Int} (e : Same H H') (h : BoardAt H b bs) : BoardAt H' b bs := ⟨e _ _ h.1, h.2⟩
structure Ak where
  a : Addr
  hand : Int
  box : Nat
  da : Addr
  d : Dd
def Ak.vs (x : Ak) : List V := [.int x.hand, .int x.box, .ref x.da]
def Ak.at_ (K : PySem.W.Frag) (H : Hp) (nb : Nat) (x : Ak) : Prop := H x.a = some (.tup x.vs) ∧ Da K H x.da x.d ∧ 0 ≤ x.hand ∧ x.hand < 16 ∧ x.box < nb
def AsksAt (K : PySem.W.Frag) (H : Hp) (k : Addr) (as : List Ak) (nb : Nat) : Prop := H k = some (.tup (as.map fun x => .ref x.a)) ∧ as.length ≤ 40 ∧ ∀ x ∈ as, x.at_ K H nb
theorem Ak.at_.same {K : PySem.W.Frag} {H H' : Hp} {nb : Nat} {x : Ak} (e : Same H H') (h : x.at_ K H nb) : x.at_ K H' nb := ⟨e _ _ h.1, h.2.1.same e, h.2.2⟩
theorem AsksAt.same {K : PySem.W.Frag} {H H' : Hp} {k : Addr} {as : List Ak} {nb : Nat} (e : Same H H') (h : AsksAt K H k as nb) : AsksAt K H' k as nb := ⟨e _ _ h.1, h.2.1, fun x hx => (h.2.2 x hx).same e⟩
theorem Da.but {K : PySem.W.Frag} {p : Addr} {ys : List V} {H H' : Hp} {a : Addr} {d : Dd} (e : But p H H') (hp : H p = some (.lst ys)) (h : Da K H a d) : Da K H' a d := ⟨h.1.but e hp, h.2⟩
theorem Ak.at_.but {K : PySem.W.Frag} {p : Addr} {ys : List V} {H H' : Hp} {nb : Nat} {x : Ak} (e : But p H H') (hp : H p = some (.lst ys)) (h : x.at_ K H nb) : x.at_ K H' nb := ⟨e _ _ (ne_of h.1 hp (by intro z; cases z)) h.1, h.2.1.but e hp, h.2.2⟩
def Ak.pd (x : Ak) : PyData := .tuple [.int x.hand, .int x.box, Toy.pd x.d]
theorem Ak.at_.dp {K : PySem.W.Frag} {H : Hp} {nb : Nat} {x : Ak} (h : x.at_ K H nb) : Dp K H (.ref x.a) x.pd := .tup (SqT.of h.1) (.cons (.int _) (.cons (.int _) (.cons h.2.1.dp .nil)))
theorem Ak.at_.sh {K : PySem.W.Frag} {H : Hp} {nb : Nat} {x : Ak} (h : x.at_ K H nb) (hn : nb ≤ 16) : Sh x.pd 2 19000 := by
  refine Sh.tup (f := id) (n := 1) (c := 6000) (j := 3) (xs := [.int x.hand, .int x.box, Toy.pd x.d]) ?_ (Nat.le_refl _) (Nat.le_refl _) (by decide)
  have := h.2.2
  intro y hy
  simp only [List.mem_cons, List.mem_nil_iff, or_false] at hy
  rcases hy with rfl | rfl | rfl
  · exact (int_sh (by omega) (by omega)).mono (by decide) (by decide)
  · exact (int_sh (by omega) (by omega)).mono (by decide) (by decide)
  · exact pd_sh1 h.2.1.2.1 (by decide)
def intsD (bs : List Int) : PyData := .tuple (bs.map PyData.int)
theorem ints_sh1 {bs : List Int} {c : Int} {n : Nat} (h : Wi c bs) (hc : c ≤ 10 ^ 100) (hn : bs.length ≤ n) : Sh (intsD bs) 1 (1925 * n + 4) :=
  Sh.tup (n := 0) (c := 1921) (j := n) (fun x hx => have := h x hx; int_sh (by omega) (by omega)) (Nat.le_refl _) hn (by omega)
theorem BoardAt.dp {K : PySem.W.Frag} {H : Hp} {b : Addr} {bs : List Int} (h : BoardAt H b bs) : Dp K H (.ref b) (intsD bs) := tupI_dp (SqT.of h.1)
def akD (as : List Ak) : PyData := .tuple (as.map Ak.pd)
theorem AsksAt.dp {K : PySem.W.Frag} {H : Hp} {k : Addr} {as : List Ak} {nb : Nat} (h : AsksAt K H k as nb) : Dp K H (.ref k) (akD as) := .tup (SqT.of h.1) (dps fun x hx => (h.2.2 x hx).dp)
theorem AsksAt.sh {K : PySem.W.Frag} {H : Hp} {k : Addr} {as : List Ak} {nb : Nat} (h : AsksAt K H k as nb) (hn : nb ≤ 16) : Sh (akD as) 3 800000 :=
  Sh.tup (n := 2) (c := 19000) (j := 40) (fun x hx => (h.2.2 x hx).sh hn) (Nat.le_refl _) h.2.1 (by decide)
/-! ### asks played -/
def stepP (s : List Int × List Int) (x : Ak) : List Int × List Int := (s.1 ++ [s.2.getD x.box 0], s.2.set x.box (x.d.ap (s.2.getD x.box 0)))
def play (as : List Ak) (bs : List Int) : List Int × List Int := as.foldl stepP ([], bs)
theorem play_snoc {as : List Ak} {bs : List Int} {i : Nat} {x : Ak} (h : as[i]? = some x) : play (as.take (i + 1)) bs = stepP (play (as.take i) bs) x := by
  unfold play; rw [take_snoc h, List.foldl_append] <;> rfl
theorem Wi.set {c : Int} {bs : List Int} {i : Nat} {v : Int} (h : Wi c bs) (h1 : -c ≤ v) (h2 : v ≤ c) : Wi c (bs.set i v) := fun x hx => by
  rcases List.mem_or_eq_of_mem_set hx with h3 | h3
  · exact h x h3
  · subst h3; exact ⟨h1, h2⟩
theorem Wi.mono {c c' : Int} {bs : List Int} (h : Wi c bs) (e : c ≤ c') : Wi c' bs := fun x hx => by have := h x hx; omega
theorem Wi.get {c : Int} {bs : List Int} {i : Nat} (h : Wi c bs) (h0 : 0 ≤ c) : -c ≤ bs.getD i 0 ∧ bs.getD i 0 ≤ c := by
  rw [List.getD_eq_getElem?_getD]
  cases e : bs[i]? with
  | none => show -c ≤ 0 ∧ 0 ≤ c; omega
  | some x => exact h x (List.mem_of_getElem? e)
theorem snoc_ind {α : Type} {p : List α → Prop} (nil : p []) (snoc : ∀ l x, p l → p (l ++ [x])) (l : List α) : p l := by
  have h : ∀ l : List α, p l.reverse := fun l => by
    induction l with
    | nil => exact nil
    | cons x r ih => rw [List.reverse_cons]; exact snoc _ _ ih
  have := h l.reverse
  rwa [List.reverse_reverse] at this
theorem play_in {K : PySem.W.Frag} {H : Hp} {nb : Nat} {bs : List Int} {c : Int} (hc : 0 ≤ c) (hb : Wi c bs) : ∀ {as : List Ak}, (∀ x ∈ as, x.at_ K H nb) → (play as bs).1.length = as.length ∧ (play as bs).2.length = bs.length ∧ Wi (c + as.length * 10 ^ 89) (play as bs).1 ∧ Wi (c + as.length * 10 ^ 89) (play as bs).2 := by
  intro as
  induction as using snoc_ind with
  | nil => exact fun _ => ⟨rfl, rfl, (fun x hx => (nomatch hx)), hb.mono (by show c ≤ c + ((0 : Nat) : Int) * _; omega)⟩
  | snoc as x ih =>
    intro h
    obtain ⟨i1, i2, i3, i4⟩ := ih fun y hy => h y (List.mem_append_left _ hy)
    have hx := h x (List.mem_append_right _ List.mem_cons_self)
    have e : play (as ++ [x]) bs = stepP (play as bs) x := by unfold play; rw [List.foldl_append] <;> rfl
    have hg := i4.get (i := x.box) (by omega)
    have ha := ap_in (v := (play as bs).2.getD x.box 0) hx.2.1.2.1 hg.1 hg.2 (by omega)
    rw [e]
    have el : (((as ++ [x]).length : Nat) : Int) = as.length + 1 := by simp
    rw [el]
    refine ⟨?_, ?_, ?_, ?_⟩
    · show (_ ++ [_]).length = _; simp [i1]
    · show (List.set _ _ _).length = _; simp [i2]
    · intro y hy
      rcases List.mem_append.mp (show y ∈ _ ++ [_] from hy) with h3 | h3
      · have := i3 y h3; omega
      · have := List.mem_singleton.mp h3; subst this; omega
    · exact Wi.set (i4.mono (by omega)) (by omega) (by omega)
theorem menu8 : ∀ j : Nat, j < 8 → ∃ z : Int, ([.int 2147483629, .int 2147483587, .int 2147483579, .int 2147483563, .int 2147483549, .int 2147483543, .int 2147483497, .int 2147483489] : List V)[j]? = some (.int z) ∧ 0 < z ∧ z ≤ 2147483629
  | 0, _ => ⟨_, rfl, by decide, by decide⟩
  | 1, _ => ⟨_, rfl, by decide, by decide⟩
  | 2, _ => ⟨_, rfl, by decide, by decide⟩
  | 3, _ => ⟨_, rfl, by decide, by decide⟩
  | 4, _ => ⟨_, rfl, by decide, by decide⟩
  | 5, _ => ⟨_, rfl, by decide, by decide⟩
  | 6, _ => ⟨_, rfl, by decide, by decide⟩
  | 7, _ => ⟨_, rfl, by decide, by decide⟩
  | n + 8, h => absurd h (by omega)
theorem at3 {x0 x1 x2 : Int} : ∀ j : Nat, j < 3 → ∃ z : Int, ([.int x0, .int x1, .int x2] : List V)[j]? = some (.int z) ∧ (z = x0 ∨ z = x1 ∨ z = x2)
  | 0, _ => ⟨_, rfl, .inl rfl⟩
  | 1, _ => ⟨_, rfl, .inr (.inl rfl)⟩
  | 2, _ => ⟨_, rfl, .inr (.inr rfl)⟩
  | n + 3, h => absurd h (by omega)
theorem but_upd {p D : Addr} {H H1 : Hp} {o : HO} (n : H D = none) (a : But p H H1) : But p H (upd H1 D o) := fun b u hb e => by rw [upd_ne (ne_of_none e n)]; exact a b u hb e
theorem PotAt.upd {H : Hp} {p D : Addr} {o : HO} (n : p ≠ D) (h : PotAt H p) : PotAt (L2.upd H D o) p := by
  obtain ⟨a, b, h1, h2⟩ := h
  exact ⟨a, b, by rw [upd_ne n]; exact h1, h2⟩
theorem Wi.snoc {c : Int} {bs : List Int} {x : Int} (h : Wi c bs) (h1 : -c ≤ x) (h2 : x ≤ c) : Wi c (bs ++ [x]) := fun y hy => by
  rcases List.mem_append.mp hy with h3 | h3
  · exact h y h3
  · have := List.mem_singleton.mp h3; subst this; exact ⟨h1, h2⟩
theorem play_len {as : List Ak} {bs : List Int} : (play as bs).1.length = as.length ∧ (play as bs).2.length = bs.length := by
  induction as using snoc_ind with
  | nil => exact ⟨rfl, rfl⟩
  | snoc as x ih =>
    have e : play (as ++ [x]) bs = stepP (play as bs) x := by unfold play; rw [List.foldl_append] <;> rfl
    rw [e]
    refine ⟨?_, ?_⟩
    · show (_ ++ [_]).length = _; simp [ih.1]
    · show (List.set _ _ _).length = _; simp [ih.2]
theorem map_getD {us : List Int} {i : Nat} (h : i < us.length) : (us.map V.int)[i]? = some (.int (us.getD i 0)) := by
  rw [List.getElem?_map, List.getD_eq_getElem?_getD, List.getElem?_eq_getElem h] <;> rfl
/-- what is told of asks played -/
def TwoAt (H : Hp) (r : Addr) (s : List Int × List Int) : Prop := ∃ t1 t2, H r = some (.tup [.ref t1, .ref t2]) ∧ H t1 = some (.tup (s.1.map V.int)) ∧ H t2 = some (.tup (s.2.map V.int))
theorem TwoAt.same {H H' : Hp} {r : Addr} {s : List Int × List Int} (e : Same H H') (h : TwoAt H r s) : TwoAt H' r s := by
  obtain ⟨a, b, h1, h2, h3⟩ := h
  exact ⟨a, b, e _ _ h1, e _ _ h2, e _ _ h3⟩
def twoD (s : List Int × List Int) : PyData := .tuple [intsD s.1, intsD s.2]
theorem TwoAt.dp {K : PySem.W.Frag} {H : Hp} {r : Addr} {s : List Int × List Int} (h : TwoAt H r s) : Dp K H (.ref r) (twoD s) := by
  obtain ⟨a, b, h1, h2, h3⟩ := h
  exact .tup (SqT.of h1) (.cons (tupI_dp (SqT.of h2)) (.cons (tupI_dp (SqT.of h3)) .nil))
theorem play_sh {K : PySem.W.Frag} {H : Hp} {k : Addr} {as : List Ak} {bs : List Int} {c : Int} (hk : AsksAt K H k as bs.length) (hn : bs.length ≤ 16) (hw : Wi c bs) (h0 : 0 ≤ c) (hc : c ≤ 10 ^ 91) : Sh (twoD (play as bs)) 2 160000 := by
  obtain ⟨h1, h2, h3, h4⟩ := play_in h0 hw hk.2.2
  have h40 := hk.2.1
  have hb : c + (as.length : Int) * 10 ^ 89 ≤ 10 ^ 100 := by omega
  refine Sh.tup (f := id) (n := 1) (c := 77004) (j := 2) (xs := [intsD (play as bs).1, intsD (play as bs).2]) ?_ (Nat.le_refl _) (Nat.le_refl _) (by decide)
  intro x hx
  simp only [List.mem_cons, List.mem_nil_iff, or_false] at hx
  rcases hx with rfl | rfl
  · exact ints_sh1 (n := 40) h3 hb (by omega)
  · exact ints_sh1 (n := 40) h4 hb (by omega)
/-! ### trees -/
inductive Tr where
  | leaf (n : Nat)
  | node (l r : Tr)
def Tr.cnt : Tr → Nat
  | .leaf _ => 1
  | .node l r => l.cnt + r.cnt
def Tr.h : Tr → Nat
  | .leaf _ => 1
  | .node l r => max l.h r.h + 1
def Tr.d : Tr → PyData
  | .leaf n => .int n
  | .node l r => .tuple [l.d, r.d]
def Tr.big : Tr → Nat
  | .leaf n => n
  | .node l r => max l.big r.big
def TrAt (H : Hp) : V → Tr → Prop
  | v, .leaf n => v = .int n
  | v, .node l r => ∃ a x y, v = .ref a ∧ H a = some (.tup [x, y]) ∧ TrAt H x l ∧ TrAt H y r
theorem TrAt.same {H H' : Hp} (e : Same H H') : ∀ {t : Tr} {v : V}, TrAt H v t → TrAt H' v t
  | .leaf _, _, h => h
  | .node l r, _, ⟨a, x, y, h1, h2, h3, h4⟩ => ⟨a, x, y, h1, e _ _ h2, TrAt.same e h3, TrAt.same e h4⟩
theorem TrAt.dp {K : PySem.W.Frag} {H : Hp} : ∀ {t : Tr} {v : V}, TrAt H v t → Dp K H v t.d
  | .leaf n, _, h => by
    cases (show _ = V.int n from h)
    exact .int n
  | .node l r, _, ⟨a, x, y, h1, h2, h3, h4⟩ => by
    cases h1
    exact .tup (SqT.of h2) (.cons h3.dp (.cons h4.dp .nil))
theorem Tr.sh : ∀ {t : Tr} {b : Nat}, t.big ≤ b → b ≤ 10 ^ 9 → t.d.showable = true ∧ t.d.depth + 1 ≤ t.h ∧ cst t.d + 12 ≤ 1940 * t.cnt
  | .leaf n, b, h, hb => by
    have h' : n ≤ b := h
    have i := int_sh (i := n) (by omega) (by omega)
    exact ⟨i.s, Nat.le_refl _, by show 1921 + 12 ≤ 1940 * 1; decide⟩
  | .node l r, b, h, hb => by
    have h' : max l.big r.big ≤ b := h
    obtain ⟨a1, a2, a3⟩ := Tr.sh (t := l) (b := b) (by omega) hb
    obtain ⟨b1, b2, b3⟩ := Tr.sh (t := r) (b := b) (by omega) hb
    refine ⟨?_, ?_, ?_⟩
    · simp only [Tr.d, PyData.showable, PyData.showableAll, a1, b1, Bool.and_self]
    · simp only [Tr.d, PyData.depth, PyData.depthAll, Tr.h]; omega
    · show (cst l.d + 4 + (cst r.d + 4 + 0)) + 4 + 12 ≤ 1940 * (l.cnt + r.cnt); omega
theorem Tr.shw {t : Tr} (h1 : t.big ≤ 10 ^ 9) (h2 : t.h ≤ 50) (h3 : t.cnt ≤ 50) : Sh t.d 60 100000 := by
  obtain ⟨a, b, c⟩ := Tr.sh h1 (Nat.le_refl _)
  exact ⟨a, by omega, by omega⟩
theorem Tr.h_pos : ∀ t : Tr, 1 ≤ t.h
  | .leaf _ => Nat.le_refl _
  | .node _ _ => Nat.le_add_left _ _
/-- the halved tree -/
def hv (f m : Nat) : Tr := if m ≤ 1 then .leaf f else .node (hv f ((m + 1) / 2)) (hv (f + (m + 1) / 2) (m - (m + 1) / 2))
termination_by m
decreasing_by all_goals omega
theorem hv_one {f m : Nat} (h : m ≤ 1) : hv f m = .leaf f := by rw [hv, if_pos h]
theorem hv_more {f m : Nat} (h : ¬ m ≤ 1) : hv f m = .node (hv f ((m + 1) / 2)) (hv (f + (m + 1) / 2) (m - (m + 1) / 2)) := by rw [hv, if_neg h]
def IsH : Tr → Nat → Prop
  | .leaf n, f => n = f
  | .node l r, f => (l.cnt = r.cnt ∨ l.cnt = r.cnt + 1) ∧ IsH l f ∧ IsH r (f + l.cnt)
theorem hv_is : ∀ (m f : Nat), 1 ≤ m → IsH (hv f m) f ∧ (hv f m).cnt = m ∧ (hv f m).h ≤ m ∧ (hv f m).big ≤ f + m := by
  intro m
  induction m using Nat.strongRecOn with
  | _ m ih =>
    intro f h
    by_cases c : m ≤ 1
    · rw [hv_one c]
      have : m = 1 := by omega
      subst this
      exact ⟨rfl, rfl, Nat.le_refl _, Nat.le_add_right _ _⟩
    · rw [hv_more c]
      obtain ⟨a1, a2, a3, a4⟩ := ih ((m + 1) / 2) (by omega) f (by omega)
      obtain ⟨b1, b2, b3, b4⟩ := ih (m - (m + 1) / 2) (by omega) (f + (m + 1) / 2) (by omega)
      refine ⟨⟨by omega, a1, by rw [a2]; exact b1⟩, ?_, ?_, ?_⟩
      · show _ + _ = _; omega
      · show max _ _ + 1 ≤ _; omega
      · show max _ _ ≤ _; omega
/-- the chained tree of so many -/
def ch : Nat → Tr
  | 0 => .leaf 0
  | n + 1 => .node (ch n) (.leaf (n + 1))
theorem ch_is : ∀ n, (ch n).cnt = n + 1 ∧ (ch n).h ≤ n + 1 ∧ (ch n).big ≤ n
  | 0 => ⟨rfl, Nat.le_refl _, Nat.le_refl _⟩
  | n + 1 => by
    obtain ⟨a, b, c⟩ := ch_is n
    refine ⟨?_, ?_, ?_⟩
    · show _ + 1 = _; omega
    · show max _ 1 + 1 ≤ _; omega
    · show max _ (n + 1) ≤ _; omega
theorem TrAt.but {p : Addr} {ys : List V} {H H' : Hp} (e : But p H H') (hp : H p = some (.lst ys)) : ∀ {t : Tr} {v : V}, TrAt H v t → TrAt H' v t
  | .leaf _, _, h => h
  | .node l r, _, ⟨a, x, y, h1, h2, h3, h4⟩ => ⟨a, x, y, h1, e _ _ (ne_of h2 hp (by intro z; cases z)) h2, TrAt.but e hp h3, TrAt.but e hp h4⟩
/-! ### rows of deeds, folded and shared out -/
def behs (ds : List Dd) : Dd := ds.foldl beh look
def Oks (ds : List Dd) : Prop := ∀ d ∈ ds, d.Ok
theorem behs_snoc (ds : List Dd) (d : Dd) : behs (ds ++ [d]) = beh (behs ds) d := by unfold behs; rw [List.foldl_append] <;> rfl
theorem behs_ok : ∀ {ds : List Dd}, Oks ds → (behs ds).Ok := by
  intro ds
  induction ds using snoc_ind with
  | nil => exact fun _ => look_ok
  | snoc ds d ih => exact fun h => by rw [behs_snoc]; exact beh_ok (ih fun x hx => h x (List.mem_append_left _ hx)) (h d (List.mem_append_right _ List.mem_cons_self))
theorem behs_app {xs : List Dd} (hx : Oks xs) : ∀ {ys : List Dd}, Oks ys → behs (xs ++ ys) = beh (behs xs) (behs ys) := by
  intro ys
  induction ys using snoc_ind with
  | nil => exact fun _ => by rw [List.append_nil]; exact (beh_look (behs_ok hx)).symm
  | snoc ys y ih =>
    intro h
    have h1 : Oks ys := fun x hx => h x (List.mem_append_left _ hx)
    have h2 : y.Ok := h y (List.mem_append_right _ List.mem_cons_self)
    rw [← List.append_assoc, behs_snoc, ih h1, behs_snoc, beh_assoc (behs_ok hx) (behs_ok h1) h2]
theorem behs_one {d : Dd} (h : d.Ok) : behs [d] = d := look_beh h
def ans : Int → List Dd → List Int
  | _, [] => []
  | v, d :: r => v :: ans (d.ap v) r
def aps : Int → List Dd → Int
  | v, [] => v
  | v, d :: r => aps (d.ap v) r
theorem aps_snoc : ∀ (ds : List Dd) (v : Int) (d : Dd), aps v (ds ++ [d]) = d.ap (aps v ds)
  | [], _, _ => rfl
  | _ :: r, _, _ => aps_snoc r _ _
theorem ans_app : ∀ (xs ys : List Dd) (v : Int), ans v (xs ++ ys) = ans v xs ++ ans (aps v xs) ys
  | [], _, _ => rfl
  | x :: r, ys, v => congrArg (v :: ·) (ans_app r ys _)
theorem ans_len : ∀ (xs : List Dd) (v : Int), (ans v xs).length = xs.length
  | [], _ => rfl
  | _ :: r, _ => congrArg (· + 1) (ans_len r _)
theorem behs_ap : ∀ {ds : List Dd}, Oks ds → ∀ v, (behs ds).ap v = aps v ds := by
  intro ds
  induction ds using snoc_ind with
  | nil => exact fun _ v => look_ap v
  | snoc ds d ih =>
    intro h v
    have h1 : Oks ds := fun x hx => h x (List.mem_append_left _ hx)
    have h2 : d.Ok := h d (List.mem_append_right _ List.mem_cons_self)
    rw [behs_snoc, beh_ap (behs_ok h1) h2, ih h1, aps_snoc]
/-- a tree's leaves are the numbers from one on -/
def IsRow : Tr → Nat → Prop
  | .leaf n, f => n = f
  | .node l r, f => IsRow l f ∧ IsRow r (f + l.cnt)
theorem Tr.cnt_pos : ∀ t : Tr, 1 ≤ t.cnt
  | .leaf _ => Nat.le_refl _
  | .node l r => Nat.le_trans l.cnt_pos (Nat.le_add_right _ _)
theorem Tr.h_cnt : ∀ t : Tr, t.h ≤ t.cnt
  | .leaf _ => Nat.le_refl _
  | .node l r => by
    have := l.h_cnt; have := r.h_cnt; have := l.cnt_pos; have := r.cnt_pos
    show max l.h r.h + 1 ≤ l.cnt + r.cnt
    omega
theorem IsRow.big : ∀ {t : Tr} {f : Nat}, IsRow t f → t.big ≤ f + t.cnt
  | .leaf n, f, h => by cases (show n = f from h); exact Nat.le_add_right _ _
  | .node l r, f, ⟨h1, h2⟩ => by
    have := h1.big; have := h2.big
    show max l.big r.big ≤ f + (l.cnt + r.cnt)
    omega
theorem isH_row : ∀ {t : Tr} {f : Nat}, IsH t f → IsRow t f
  | .leaf _, _, h => h
  | .node _ _, _, ⟨_, h1, h2⟩ => ⟨isH_row h1, isH_row h2⟩
theorem ch_row : ∀ n, IsRow (ch n) 0
  | 0 => rfl
  | n + 1 => ⟨ch_row n, by show n + 1 = 0 + (ch n).cnt; rw [(ch_is n).1]; omega⟩
def FT (ds : List Dd) : Tr → Dd
  | .leaf n => ds.getD n look
  | .node l r => beh (FT ds l) (FT ds r)
def ST (ds : List Dd) : Tr → Int → List Int
  | .leaf _, v => [v]
  | .node l r, v => ST ds l v ++ ST ds r ((FT ds l).ap v)
theorem cut_add {ds : List Dd} {f a b : Nat} : (ds.drop f).take (a + b) = (ds.drop f).take a ++ (ds.drop (f + a)).take b := by
  rw [List.take_add, List.drop_drop]
theorem oks_cut {ds : List Dd} (h : Oks ds) (f n : Nat) : Oks ((ds.drop f).take n) := fun d hd => h d (List.mem_of_mem_drop (List.mem_of_mem_take hd))
theorem cut_one {ds : List Dd} {n : Nat} (h : n < ds.length) : (ds.drop n).take 1 = [ds.getD n look] := by
  rw [List.getD_eq_getElem?_getD, List.getElem?_eq_getElem h, List.drop_eq_getElem_cons h] <;> rfl
theorem FT_is {ds : List Dd} (ok : Oks ds) : ∀ {t : Tr} {f : Nat}, IsRow t f → f + t.cnt ≤ ds.length → FT ds t = behs ((ds.drop f).take t.cnt)
  | .leaf n, f, h, hl => by
    cases (show n = f from h)
    have hl' : n < ds.length := hl
    show ds.getD n look = behs ((ds.drop n).take 1)
    rw [cut_one hl', behs_one]
    refine ok _ ?_
    rw [List.getD_eq_getElem?_getD, List.getElem?_eq_getElem hl']
    exact List.getElem_mem hl'
  | .node l r, f, ⟨h1, h2⟩, hl => by
    have hl' : f + (l.cnt + r.cnt) ≤ ds.length := hl
    show beh (FT ds l) (FT ds r) = behs ((ds.drop f).take (l.cnt + r.cnt))
    rw [FT_is ok h1 (by omega), FT_is ok h2 (by omega), cut_add, behs_app (oks_cut ok _ _) (oks_cut ok _ _)]
theorem ST_is {ds : List Dd} (ok : Oks ds) : ∀ {t : Tr} {f : Nat} {v : Int}, IsRow t f → f + t.cnt ≤ ds.length → ST ds t v = ans v ((ds.drop f).take t.cnt)
  | .leaf n, f, v, h, hl => by
    cases (show n = f from h)
    have hl' : n < ds.length := hl
    show [v] = ans v ((ds.drop n).take 1)
    rw [cut_one hl'] <;> rfl
  | .node l r, f, v, ⟨h1, h2⟩, hl => by
    have hl' : f + (l.cnt + r.cnt) ≤ ds.length := hl
    show ST ds l v ++ ST ds r ((FT ds l).ap v) = ans v ((ds.drop f).take (l.cnt + r.cnt))
    rw [ST_is ok h1 (by omega), ST_is ok h2 (by omega), cut_add, ans_app, FT_is ok h1 (by omega), behs_ap (oks_cut ok _ _)]
theorem FT_all {ds : List Dd} (ok : Oks ds) {t : Tr} (h : IsRow t 0) (hl : t.cnt = ds.length) : FT ds t = behs ds := by
  rw [FT_is ok h (by omega), List.drop_zero, hl, List.take_length]
theorem ST_all {ds : List Dd} (ok : Oks ds) {t : Tr} {v : Int} (h : IsRow t 0) (hl : t.cnt = ds.length) : ST ds t v = ans v ds := by
  rw [ST_is ok h (by omega), List.drop_zero, hl, List.take_length]
/-- a tuple of deeds -/
def DsAt (K : PySem.W.Frag) (H : Hp) (k : Addr) (ps : List (Addr × Dd)) : Prop := H k = some (.tup (ps.map fun x => .ref x.1)) ∧ 1 ≤ ps.length ∧ ps.length ≤ 40 ∧ ∀ x ∈ ps, Da K H x.1 x.2
theorem DsAt.same {K : PySem.W.Frag} {H H' : Hp} {k : Addr} {ps : List (Addr × Dd)} (e : Same H H') (h : DsAt K H k ps) : DsAt K H' k ps := ⟨e _ _ h.1, h.2.1, h.2.2.1, fun x hx => (h.2.2.2 x hx).same e⟩
def dsOf (ps : List (Addr × Dd)) : List Dd := ps.map Prod.snd
theorem DsAt.oks {K : PySem.W.Frag} {H : Hp} {k : Addr} {ps : List (Addr × Dd)} (h : DsAt K H k ps) : Oks (dsOf ps) := fun d hd => by
  obtain ⟨x, hx, rfl⟩ := List.mem_map.mp hd
  exact (h.2.2.2 x hx).2.2
/-- rows of trees, one after another -/
def Rows : List Tr → Nat → Nat → Prop
  | [], f, m => f = m
  | t :: r, f, m => IsRow t f ∧ Rows r (f + t.cnt) m
def Tr.sz : Tr → Nat
  | .leaf _ => 1
  | .node l r => l.sz + r.sz + 1
def szs : List Tr → Nat
  | [] => 0
  | t :: r => t.sz + szs r
theorem Tr.lay : ∀ t : Tr, t.d.canLay0 = true
  | .leaf _ => rfl
  | .node l r => by
    have := l.lay; have := r.lay
    simp_all [Tr.d, PyData.canLay0, PyData.canLayAll0]
theorem rows_len : ∀ {ts : List Tr} {f m : Nat}, Rows ts f m → ts.length + f ≤ m
  | [], _, _, h => by cases (show _ = _ from h); exact Nat.le_of_eq (Nat.zero_add _)
  | t :: r, f, m, ⟨_, h⟩ => by
    have := rows_len h
    have := t.cnt_pos
    show r.length + 1 + f ≤ m
    omega
theorem eqv_nil : ∀ ds : List PyData, PyData.eqv (.list ds) (.list []) = ds.isEmpty
  | [] => rfl
  | _ :: _ => rfl
theorem lays {ts : List (V × Tr)} : PyData.canLayAll0 (ts.map fun x => x.2.d) = true := by
  induction ts with
  | nil => rfl
  | cons x r ih => simp [PyData.canLayAll0, x.2.lay, ih]
theorem depths : ∀ {xs : List (V × Tr)}, (∀ x ∈ xs, x.2.h ≤ 40 ∧ x.2.big ≤ 100) → PyData.depthAll (xs.map fun x => x.2.d) ≤ 50
  | [], _ => Nat.zero_le _
  | x :: r, hx => by
    have h1 := depths (xs := r) fun y hy => hx y (List.mem_cons_of_mem _ hy)
    have h2 := hx x List.mem_cons_self
    have h3 := (Tr.sh (Nat.le_trans h2.2 (by decide)) (Nat.le_refl (10 ^ 9))).2.1
    simp only [List.map_cons, PyData.depthAll]
    omega
theorem ST_len (ds : List Dd) : ∀ (t : Tr) (v : Int), (ST ds t v).length = t.cnt
  | .leaf _, _ => rfl
  | .node l r, v => by
    show (ST ds l v ++ ST ds r _).length = l.cnt + r.cnt
    rw [List.length_append, ST_len ds l, ST_len ds r]
def TsAt (H : Hp) (T : Addr) (ts : List (V × Tr)) (m : Nat) : Prop := H T = some (.lst (ts.map fun x => x.1)) ∧ ts.length ≤ 6 ∧ ∀ x ∈ ts, TrAt H x.1 x.2 ∧ IsRow x.2 0 ∧ x.2.cnt = m
theorem TsAt.same {H H' : Hp} {T : Addr} {ts : List (V × Tr)} {m : Nat} (e : Same H H') (h : TsAt H T ts m) : TsAt H' T ts m := ⟨e _ _ h.1, h.2.1, fun x hx => ⟨(h.2.2 x hx).1.same e, (h.2.2 x hx).2⟩⟩
theorem TsAt.but {p : Addr} {H H' : Hp} {T : Addr} {ts : List (V × Tr)} {m : Nat} (e : But p H H') (n : T ≠ p) {ys : List V} (hp : H p = some (.lst ys)) (h : TsAt H T ts m) : TsAt H' T ts m := ⟨e _ _ n h.1, h.2.1, fun x hx => ⟨(h.2.2 x hx).1.but e hp, (h.2.2 x hx).2⟩⟩
def tsD (ts : List (V × Tr)) : PyData := .list (ts.map fun x => x.2.d)
theorem TsAt.dp {K : PySem.W.Frag} {H : Hp} {T : Addr} {ts : List (V × Tr)} {m : Nat} (h : TsAt H T ts m) : Dp K H (.ref T) (tsD ts) := .lst (SqL.of h.1) (dps fun x hx => (h.2.2 x hx).1.dp)
theorem row_sh {t : Tr} {m : Nat} (h : IsRow t 0) (hc : t.cnt = m) (hm : m ≤ 40) : Sh t.d 40 80000 := by
  have h1 := h.big
  have h2 := t.h_cnt
  obtain ⟨a, b, c⟩ := Tr.sh (t := t) (b := 100) (by omega) (by decide)
  exact ⟨a, by omega, by omega⟩
theorem TsAt.sh {H : Hp} {T : Addr} {ts : List (V × Tr)} {m : Nat} (h : TsAt H T ts m) (hm : m ≤ 40) : Sh (tsD ts) 41 500000 :=
  Sh.lst (n := 40) (c := 80000) (j := 6) (fun x hx => row_sh (h.2.2 x hx).2.1 (h.2.2 x hx).2.2 hm) (Nat.le_refl _) h.2.1 (by decide)
theorem behs_in {b : Int} (h0 : 0 ≤ b) : ∀ {ds : List Dd}, (∀ d ∈ ds, d.In b) → (behs ds).In (ds.length * b) := by
  intro ds
  induction ds using snoc_ind with
  | nil => exact fun _ => by show look.In _; exact look_in (by simp)
  | snoc ds d ih =>
    intro h
    rw [behs_snoc]
    have h1 := ih fun x hx => h x (List.mem_append_left _ hx)
    have h2 := h d (List.mem_append_right _ List.mem_cons_self)
    have h3 := beh_in h1 h2 (Int.mul_nonneg (by omega) h0) h0
    rw [show (((ds ++ [d]).length : Nat) : Int) = ds.length + 1 by simp, Int.add_mul]
    refine In.le h3 ?_
    omega
theorem ans_in {b : Int} (h0 : 0 ≤ b) : ∀ {ds : List Dd} {v c : Int}, (∀ d ∈ ds, d.In b) → -c ≤ v → v ≤ c → 0 ≤ c → Wi (c + ds.length * b) (ans v ds)
  | [], _, _, _, _, _, _ => fun x hx => nomatch hx
  | d :: r, v, c, h, h1, h2, hc => by
    have h3 := ap_in (h d List.mem_cons_self) h1 h2 hc
    have h4 := ans_in h0 (ds := r) (v := d.ap v) (c := b + c) (fun x hx => h x (List.mem_cons_of_mem _ hx)) (by omega) (by omega) (by omega)
    have e : c + (((d :: r).length : Nat) : Int) * b = b + c + (r.length : Int) * b := by
      rw [List.length_cons, Int.natCast_add, Int.add_mul]
      omega
    have h5 := Int.mul_nonneg (show (0 : Int) ≤ (((d :: r).length : Nat) : Int) by omega) h0
    intro x hx
    rcases List.mem_cons.mp (show x ∈ v :: ans (d.ap v) r from hx) with rfl | hx
    · omega
    · rw [e]; exact h4 x hx
theorem DsAt.but {K : PySem.W.Frag} {p : Addr} {H H' : Hp} {k : Addr} {ps : List (Addr × Dd)} (e : But p H H') {ys : List V} (hp : H p = some (.lst ys)) (h : DsAt K H k ps) : DsAt K H' k ps := ⟨e _ _ (ne_of h.1 hp (by intro z; cases z)) h.1, h.2.1, h.2.2.1, fun x hx => (h.2.2.2 x hx).but e hp⟩
def dsD (ps : List (Addr × Dd)) : PyData := .tuple (ps.map fun x => Toy.pd x.2)
theorem DsAt.dp {K : PySem.W.Frag} {H : Hp} {k : Addr} {ps : List (Addr × Dd)} (h : DsAt K H k ps) : Dp K H (.ref k) (dsD ps) := .tup (SqT.of h.1) (dps fun x hx => (h.2.2.2 x hx).dp)
theorem DsAt.sh {K : PySem.W.Frag} {H : Hp} {k : Addr} {ps : List (Addr × Dd)} (h : DsAt K H k ps) : Sh (dsD ps) 2 250000 :=
  Sh.tup (n := 1) (c := 6000) (j := 40) (fun x hx => pd_sh1 (h.2.2.2 x hx).2.1 (by decide)) (Nat.le_refl _) h.2.2.1 (by decide)
theorem DsAt.ins {K : PySem.W.Frag} {H : Hp} {k : Addr} {ps : List (Addr × Dd)} (h : DsAt K H k ps) : ∀ d ∈ dsOf ps, d.In (10 ^ 89) := fun d hd => by
  obtain ⟨x, hx, rfl⟩ := List.mem_map.mp hd
  exact (h.2.2.2 x hx).2.1
theorem cut_mapG {α : Type} {g : α → V} (us : List α) (lo hi : Option Int) : ∃ ws : List α, cutV (us.map g) lo hi = ws.map g ∧ (ws.length ≤ us.length ∧ ∀ x ∈ ws, x ∈ us) := by
  refine ⟨(us.drop (HT.sIx (us.map g).length 0 lo)).take (HT.sIx (us.map g).length (us.map g).length hi - HT.sIx (us.map g).length 0 lo), ?_, ?_, fun x hx => List.mem_of_mem_drop (List.mem_of_mem_take hx)⟩
  · unfold cutV; rw [List.map_take, List.map_drop]
  · rw [List.length_take, List.length_drop]; omega
/-! ### what all asks make of each box -/
def stepM (s : List Dd × List Dd) (x : Ak) : List Dd × List Dd := (s.1 ++ [s.2.getD x.box look], s.2.set x.box (beh (s.2.getD x.box look) x.d))
def madeOf (as : List Ak) (n : Nat) : List Dd × List Dd := as.foldl stepM ([], List.replicate n look)
theorem made_app {as : List Ak} {n : Nat} {x : Ak} : madeOf (as ++ [x]) n = stepM (madeOf as n) x := by unfold madeOf; rw [List.foldl_append] <;> rfl
theorem made_snoc {as : List Ak} {n i : Nat} {x : Ak} (h : as[i]? = some x) : madeOf (as.take (i + 1)) n = stepM (madeOf (as.take i) n) x := by rw [take_snoc h, made_app]
theorem made_len {as : List Ak} {n : Nat} : (madeOf as n).1.length = as.length ∧ (madeOf as n).2.length = n := by
  induction as using snoc_ind with
  | nil => exact ⟨rfl, List.length_replicate⟩
  | snoc as x ih =>
    rw [made_app]
    refine ⟨?_, ?_⟩
    · show (_ ++ [_]).length = _; simp [ih.1]
    · show (List.set _ _ _).length = _; simp [ih.2]
def boxd (b : Nat) (as : List Ak) : List Dd := (as.filter fun x => decide (x.box = b)).map fun x => x.d
theorem boxd_snoc {b : Nat} {as : List Ak} {x : Ak} : boxd b (as ++ [x]) = if x.box = b then boxd b as ++ [x.d] else boxd b as := by
  unfold boxd
  rw [List.filter_append, List.map_append]
  by_cases c : x.box = b
  · rw [if_pos c, List.filter_cons_of_pos (by simp [c])] <;> rfl
  · rw [if_neg c, List.filter_cons_of_neg (by simp [c])]; simp
theorem getD_set {α : Type} {l : List α} {i j : Nat} {a d : α} (h : i < l.length) : (l.set i a).getD j d = if i = j then a else l.getD j d := by
  rw [List.getD_eq_getElem?_getD, List.getElem?_set, List.getD_eq_getElem?_getD]
  by_cases c : i = j
  · rw [if_pos c, if_pos c, if_pos h] <;> rfl
  · rw [if_neg c, if_neg c]
theorem made_get {n b : Nat} (hb : b < n) : ∀ {as : List Ak}, (∀ x ∈ as, x.box < n) → (madeOf as n).2.getD b look = behs (boxd b as) := by
  intro as
  induction as using snoc_ind with
  | nil =>
    intro _
    show (List.replicate n look).getD b look = look
    rw [List.getD_eq_getElem?_getD, List.getElem?_replicate]
    split <;> rfl
  | snoc as x ih =>
    intro h
    have hx := h x (List.mem_append_right _ List.mem_cons_self)
    have h1 := ih fun y hy => h y (List.mem_append_left _ hy)
    rw [made_app]
    show ((madeOf as n).2.set x.box (beh ((madeOf as n).2.getD x.box look) x.d)).getD b look = _
    rw [getD_set (by rw [made_len.2]; exact hx), boxd_snoc]
    by_cases c : x.box = b
    · subst c
      rw [if_pos rfl, if_pos rfl, behs_snoc, h1]
    · rw [if_neg c, if_neg c, h1]
theorem play_get {bs : List Int} {b : Nat} (hb : b < bs.length) : ∀ {as : List Ak}, (∀ x ∈ as, x.box < bs.length) → (play as bs).2.getD b 0 = aps (bs.getD b 0) (boxd b as) := by
  intro as
  induction as using snoc_ind with
  | nil => exact fun _ => rfl
  | snoc as x ih =>
    intro h
    have hx := h x (List.mem_append_right _ List.mem_cons_self)
    have h1 := ih fun y hy => h y (List.mem_append_left _ hy)
    have e : play (as ++ [x]) bs = stepP (play as bs) x := by unfold play; rw [List.foldl_append] <;> rfl
    rw [e]
    show ((play as bs).2.set x.box (x.d.ap ((play as bs).2.getD x.box 0))).getD b 0 = _
    rw [getD_set (by rw [play_len.2]; exact hx), boxd_snoc]
    by_cases c : x.box = b
    · subst c
      rw [if_pos rfl, if_pos rfl, aps_snoc, h1]
    · rw [if_neg c, if_neg c, h1]
theorem boxd_ok {b : Nat} {as : List Ak} (h : ∀ x ∈ as, x.d.Ok) : Oks (boxd b as) := fun d hd => by
  obtain ⟨x, hx, rfl⟩ := List.mem_map.mp hd
  exact h x (List.mem_filter.mp hx).1
theorem getD_app {α : Type} {l : List α} {a d : α} {k : Nat} : (l ++ [a]).getD k d = if k = l.length then a else l.getD k d := by
  rw [List.getD_eq_getElem?_getD, List.getD_eq_getElem?_getD]
  by_cases c : k = l.length
  · subst c; rw [if_pos rfl, List.getElem?_append_right (Nat.le_refl _), Nat.sub_self] <;> rfl
  · rw [if_neg c]
    by_cases c2 : k < l.length
    · rw [List.getElem?_append_left c2]
    · rw [List.getElem?_eq_none (by simp; omega), List.getElem?_eq_none (by omega)]
theorem ahead_get {bs : List Int} : ∀ {as : List Ak}, (∀ x ∈ as, x.box < bs.length ∧ x.d.Ok) → ∀ (k : Nat) (x : Ak), as[k]? = some x → ((madeOf as bs.length).1.getD k look).ap (bs.getD x.box 0) = (play as bs).1.getD k 0 := by
  intro as
  induction as using snoc_ind with
  | nil => exact fun _ k x h => by simp at h
  | snoc as y ih =>
    intro h k x hk
    have h0 : ∀ z ∈ as, z.box < bs.length ∧ z.d.Ok := fun z hz => h z (List.mem_append_left _ hz)
    have hy := h y (List.mem_append_right _ List.mem_cons_self)
    have e : play (as ++ [y]) bs = stepP (play as bs) y := by unfold play; rw [List.foldl_append] <;> rfl
    rw [e, made_app]
    show (((madeOf as bs.length).1 ++ [(madeOf as bs.length).2.getD y.box look]).getD k look).ap _ = ((play as bs).1 ++ [(play as bs).2.getD y.box 0]).getD k 0
    rw [getD_app, getD_app, made_len.1, play_len.1]
    by_cases c : k = as.length
    · rw [if_pos c, if_pos c]
      have : x = y := by
        rw [c, List.getElem?_append_right (Nat.le_refl _), Nat.sub_self] at hk
        exact (Option.some.inj hk).symm
      subst this
      rw [made_get hy.1 fun z hz => (h0 z hz).1, play_get hy.1 fun z hz => (h0 z hz).1, behs_ap (boxd_ok fun z hz => (h0 z hz).2)]
    · rw [if_neg c, if_neg c]
      have hlt : k < as.length := by
        have := (List.getElem?_eq_some_iff.mp hk).1
        simp at this; omega
      rw [List.getElem?_append_left hlt] at hk
      exact ih h0 k x hk
theorem made_in {n : Nat} : ∀ {as : List Ak}, (∀ x ∈ as, x.d.In (10 ^ 89)) → (∀ d ∈ (madeOf as n).1, d.In (as.length * 10 ^ 89)) ∧ (∀ d ∈ (madeOf as n).2, d.In (as.length * 10 ^ 89)) := by
  intro as
  induction as using snoc_ind with
  | nil => exact fun _ => ⟨(fun d hd => (nomatch hd)), fun d hd => by rw [(List.mem_replicate.mp hd).2]; exact look_in (by simp)⟩
  | snoc as x ih =>
    intro h
    obtain ⟨h1, h2⟩ := ih fun y hy => h y (List.mem_append_left _ hy)
    have hx := h x (List.mem_append_right _ List.mem_cons_self)
    rw [made_app]
    have el : (((as ++ [x]).length : Nat) : Int) = as.length + 1 := by simp
    have le : ((as.length : Nat) : Int) * 10 ^ 89 ≤ (((as ++ [x]).length : Nat) : Int) * 10 ^ 89 := by rw [el]; omega
    have hg : ((madeOf as n).2.getD x.box look).In (as.length * 10 ^ 89) := by
      rw [List.getD_eq_getElem?_getD]
      cases e : (madeOf as n).2[x.box]? with
      | none => exact look_in (by omega)
      | some d => exact h2 d (List.mem_of_getElem? e)
    refine ⟨fun d hd => ?_, fun d hd => ?_⟩
    · rcases List.mem_append.mp (show d ∈ _ ++ [_] from hd) with h3 | h3
      · exact In.le (h1 d h3) le
      · have := List.mem_singleton.mp h3; subst this; exact In.le hg le
    · rcases List.mem_or_eq_of_mem_set (show d ∈ List.set _ _ _ from hd) with h3 | h3
      · exact In.le (h2 d h3) le
      · subst h3
        have := beh_in hg hx (by omega) (by decide)
        refine In.le this ?_
        rw [el]; omega
/-- references to deeds -/
def RefsAt (K : PySem.W.Frag) (H : Hp) (ps : List (Addr × Dd)) : Prop := ∀ x ∈ ps, TupAt K H x.1 x.2.vs
theorem RefsAt.same {K : PySem.W.Frag} {H H' : Hp} {ps : List (Addr × Dd)} (e : Same H H') (h : RefsAt K H ps) : RefsAt K H' ps := fun x hx => (h x hx).same e
theorem RefsAt.but {K : PySem.W.Frag} {p : Addr} {ys : List V} {H H' : Hp} {ps : List (Addr × Dd)} (e : But p H H') (hp : H p = some (.lst ys)) (h : RefsAt K H ps) : RefsAt K H' ps := fun x hx => (h x hx).but e hp
theorem refs_get {ps : List (Addr × Dd)} {i : Nat} (h : i < ps.length) : ∃ y, ps[i]? = some y ∧ y ∈ ps ∧ y.2 = (dsOf ps).getD i look ∧ (ps.map fun x => V.ref x.1)[i]? = some (.ref y.1) := by
  refine ⟨ps[i], List.getElem?_eq_getElem h, List.getElem_mem h, ?_, ?_⟩
  · unfold dsOf; rw [List.getD_eq_getElem?_getD, List.getElem?_map, List.getElem?_eq_getElem h] <;> rfl
  · rw [List.getElem?_map, List.getElem?_eq_getElem h] <;> rfl
def refsD (ds : List Dd) : PyData := .tuple (ds.map Toy.pd)
theorem refs_dp {K : PySem.W.Frag} {H : Hp} {T : Addr} {ps : List (Addr × Dd)} (hT : SqT K H T (ps.map fun x => V.ref x.1)) (h : RefsAt K H ps) : Dp K H (.ref T) (refsD (dsOf ps)) := by
  have e : refsD (dsOf ps) = .tuple (ps.map fun x => Toy.pd x.2) := by unfold refsD dsOf; rw [List.map_map] <;> rfl
  rw [e]
  exact .tup hT (dps fun x hx => pd_dp (h x hx).sq)
theorem refs_sh {ds : List Dd} {b : Int} (h : ∀ d ∈ ds, d.In b) (hb : b ≤ 10 ^ 100) (hl : ds.length ≤ 40) : Sh (refsD ds) 2 250000 :=
  Sh.tup (n := 1) (c := 6000) (j := 40) (fun x hx => pd_sh1 (h x hx) hb) (Nat.le_refl _) hl (by decide)
theorem refs_new {n : Nat} {v : V} : (List.replicate n [v]).flatten = List.replicate n v := by
  induction n with
  | zero => rfl
  | succ n ih => rw [List.replicate_succ, List.flatten_cons, ih] <;> rfl
/-- a turn of the row of deeds -/
theorem refs_set {K : PySem.W.Frag} {H : Hp} {L c : Addr} {ps : List (Addr × Dd)} {i : Nat} {d : Dd} {ys : List V} {o : HO} (hL : H L = some (.lst ys)) (h : RefsAt K H ps) (hc : H c = some (.tup d.vs)) : RefsAt K (upd H L o) (ps.set i (c, d)) := fun x hx => by
  rcases List.mem_or_eq_of_mem_set hx with h3 | h3
  · exact (h x h3).but But.upd hL
  · subst h3
    exact .inl (by rw [upd_ne (ne_of hc hL (by intro z; cases z))]; exact hc)
theorem dsOf_len {ps : List (Addr × Dd)} {ds : List Dd} (e : dsOf ps = ds) : ps.length = ds.length := by rw [← e]; unfold dsOf; rw [List.length_map]
/-- the two rows: what was ahead, what is made -/
def MadeAt (K : PySem.W.Frag) (H : Hp) (L M : Addr) (st : List Dd × List Dd) : Prop := ∃ ps1 ps2 : List (Addr × Dd), H M = some (.lst (ps1.map fun x => V.ref x.1)) ∧ H L = some (.lst (ps2.map fun x => V.ref x.1)) ∧ dsOf ps1 = st.1 ∧ dsOf ps2 = st.2 ∧ RefsAt K H ps1 ∧ RefsAt K H ps2
theorem MadeAt.new {K : PySem.W.Frag} {H : Hp} {L M : Addr} {ps : List (Addr × Dd)} {st : List Dd} (hL : H L = some (.lst (ps.map fun x => V.ref x.1))) (hM : H M = some (.lst [])) (h : RefsAt K H ps) (e : dsOf ps = st := by unfold dsOf; rw [List.map_replicate] <;> rfl) : MadeAt K H L M ([], st) :=
  ⟨[], ps, hM, hL, rfl, e, (fun x hx => (nomatch hx)), h⟩
theorem MadeAt.turn {K : PySem.W.Frag} {H : Hp} {L M : Addr} {st : List Dd × List Dd} (h : MadeAt K H L M st) {x : Ak} (hb : x.box < st.2.length) :
    ∃ y : Addr × Dd, (∀ ys, H L = some (.lst ys) → ys[x.box]? = some (.ref y.1)) ∧ SqT K H y.1 y.2.vs ∧ y.2 = st.2.getD x.box look ∧
      ∀ (ps1 ps2 : List (Addr × Dd)) (H5 : Hp) (c : Addr), L ≠ M → dsOf ps1 = st.1 → dsOf ps2 = st.2 → RefsAt K H ps1 → RefsAt K H ps2 → H M = some (.lst (ps1.map fun x => V.ref x.1)) → Same (upd H M (.lst (ps1.map (fun x => V.ref x.1) ++ [V.ref y.1]))) H5 →
        H5 L = some (.lst (ps2.map fun x => V.ref x.1)) → H5 c = some (.tup (beh y.2 x.d).vs) → MadeAt K (upd H5 L (.lst ((ps2.map fun x => V.ref x.1).set x.box (.ref c)))) L M (stepM st x) := by
  obtain ⟨p1, p2, hM, hL, e1, e2, r1, r2⟩ := h
  obtain ⟨y, hy, hym, hyd, hyr⟩ := refs_get (ps := p2) (i := x.box) (by rw [dsOf_len e2]; exact hb)
  rw [e2] at hyd
  refine ⟨y, fun ys h => ?_, (r2 y hym).sq, hyd, fun ps1 ps2 H5 c nLM f1 f2 g1 g2 hM4 S5 hL5 hc => ?_⟩
  · rw [hL] at h
    cases h
    exact hyr
  · refine ⟨ps1 ++ [y], ps2.set x.box (c, beh y.2 x.d), ?_, ?_, ?_, ?_, ?_, ?_⟩
    · rw [upd_ne nLM.symm, S5 _ _ upd_same, List.map_append] <;> rfl
    · rw [upd_same, List.map_set] <;> rfl
    · show dsOf (ps1 ++ [y]) = st.1 ++ [st.2.getD x.box look]
      rw [← hyd, ← f1]
      unfold dsOf
      rw [List.map_append] <;> rfl
    · show dsOf (ps2.set x.box (c, beh y.2 x.d)) = st.2.set x.box (beh (st.2.getD x.box look) x.d)
      rw [← hyd, ← f2]
      unfold dsOf
      rw [List.map_set]
    · intro z hz
      have hz' : TupAt K H z.1 z.2.vs := by
        rcases List.mem_append.mp hz with h3 | h3
        · exact g1 z h3
        · have := List.mem_singleton.mp h3; subst this; exact r2 _ hym
      exact ((hz'.but But.upd hM).same S5).but But.upd hL5
    · exact refs_set hL5 (fun z hz => ((g2 z hz).but But.upd hM).same S5) hc
theorem refs_dp' {K : PySem.W.Frag} {H : Hp} {T : Addr} {ps : List (Addr × Dd)} {ds : List Dd} (e : dsOf ps = ds) (hT : SqT K H T (ps.map fun x => V.ref x.1)) (h : RefsAt K H ps) : Dp K H (.ref T) (refsD ds) := e ▸ refs_dp hT h
theorem AsksAt.but {K : PySem.W.Frag} {p : Addr} {ys : List V} {H H' : Hp} {k : Addr} {as : List Ak} {nb : Nat} (e : But p H H') (hp : H p = some (.lst ys)) (h : AsksAt K H k as nb) : AsksAt K H' k as nb := ⟨e _ _ (ne_of h.1 hp (by intro z; cases z)) h.1, h.2.1, fun x hx => (h.2.2 x hx).but e hp⟩
section
variable {P : Program} {w : World} {K : PySem.W.Frag} {mg : Str → Option Value} {base : Heap} (B : Bl K mg)
include B
/-! ### the program -/
def spIsWhole : Sp := fun vs H Q _ => ∃ i, vs = [.int i] ∧ Q (.bl true) H
theorem k_is_whole (D : Df K mg "is_whole" s_is_whole ["thing"]) : Dn P w K mg base 1 "is_whole" ["thing"] spIsWhole := by
  refine D.ok fun f fd F => okG0 F sc_is_whole (fun vs H Q E h => ?_) (fun cdv A outer s H vs Q E hr h => ⟨_, (pss_one (ps_ret (pe_and (pe_callB (kk (K := K) (F := rIsi) (P := CallR _ _) call_isi) (by rfl) B.isinstance_ (by decide +kernel) (pa_cons (pv 0) (pa_cons (pe_bltn (v := .ty "int") (u := .type "int") (by rfl) B.int_ (by decide +kernel) rfl) pa_nil))) (pe_one (pe_not (pe_callB (kk (K := K) (F := rIsi) (P := CallR _ _) call_isi) (by rfl) B.isinstance_ (by decide +kernel) (pa_cons (pv 0) (pa_cons (pe_bltn (v := .ty "bool") (u := .type "bool") (by rfl) B.bool_ (by decide +kernel) rfl) pa_nil)))))))), ?_⟩)
  · obtain ⟨i, rfl, _⟩ := h; rfl
  · obtain ⟨i, rfl, q⟩ := h
    refine ⟨_, rfl, _, _, _, _, _, rfl, .ty _, .base (.int _), kit_ty (b := "int") (r := true) (by decide +kernel), _, rfl, iteT ?_⟩
    refine ⟨_, rfl, _, _, _, _, _, rfl, .ty _, .base (.int _), kit_ty (b := "bool") (r := false) (by decide +kernel), _, rfl, ?_⟩
    exact q
def spIsRow (K : PySem.W.Frag) : Sp := fun vs H Q _ => ∃ (a : Addr) (xs : List V) (n : Int), vs = [.ref a, .int n] ∧ TyX K H (.ref a) (.type "tuple") ∧ SqT K H a xs ∧ Q (.bl (decide (V.int (xs.length : Int) = V.int n))) H
theorem k_is_row_of (D : Df K mg "is_row_of" s_is_row_of ["thing", "many"]) : Dn P w K mg base 1 "is_row_of" ["thing", "many"] (spIsRow K) := by
  refine D.ok fun f fd F => okG0 F sc_is_row_of (fun vs H Q E h => ?_) (fun cdv A outer s H vs Q E hr h => ⟨_, (pss_one (ps_ret (pe_and (pe_callB (kk (K := K) (F := rIsi) (P := CallR _ _) call_isi) (by rfl) B.isinstance_ (by decide +kernel) (pa_cons (pv 0) (pa_cons (pe_bltn (v := .ty "tuple") (u := .type "tuple") (by rfl) B.tuple_ (by decide +kernel) rfl) pa_nil))) (pe_one (pe_cmpR op_eq (pe_callB (lenK (K := K)) (by rfl) B.len_ (by decide +kernel) (pa_cons (pv 0) pa_nil)) (pv 1) (nomark _)))))), ?_⟩)
  · obtain ⟨a, xs, i, rfl, _⟩ := h; rfl
  · obtain ⟨a, xs, i, rfl, ht, hx, q⟩ := h
    refine ⟨_, rfl, _, _, _, _, _, rfl, .ty _, ht, kit_ty (b := "tuple") (r := true) (by decide +kernel), _, rfl, iteT ?_⟩
    exact ⟨_, rfl, a, xs, rfl, .inr hx, _, rfl, rfl, q⟩
def spWantWhole : Sp := fun vs H Q _ => ∃ i, vs = [.int i] ∧ Q .non H
theorem k_want_whole (D : Df K mg "want_whole" s_want_whole ["thing"]) (D_is_whole : Dn P w K mg base 1 "is_whole" ["thing"] spIsWhole) : Dn P w K mg base 2 "want_whole" ["thing"] spWantWhole := by
  refine D.ok fun f fd F => okG0 F sc_want_whole (fun vs H Q E h => ?_) (fun cdv A outer s H vs Q E hr h => ⟨_, (pss_one (ps_if (pt_not (pt_val (pe_cD D_is_whole (hr.less (by decide)) rfl (pa_cons (pv 0) pa_nil))))
     (pss_one ps_never)
     pss_nil)), ?_⟩)
  · obtain ⟨i, rfl, _⟩ := h; rfl
  · obtain ⟨i, rfl, q⟩ := h
    exact ⟨_, rfl, i, rfl, _, rfl, iteF q⟩
def spIsEnd : Sp := fun vs H Q _ => ∃ o, vs = [oV o] ∧ Q (.bl true) H
theorem k_is_end (D : Df K mg "is_end" s_is_end ["thing"]) (D_is_whole : Dn P w K mg base 1 "is_whole" ["thing"] spIsWhole) : Dn P w K mg base 2 "is_end" ["thing"] spIsEnd := by
  refine D.ok fun f fd F => okG0 F sc_is_end (fun vs H Q E h => ?_) (fun cdv A outer s H vs Q E hr h => ⟨_, (pss_one (ps_ret (pe_or (pe_cmpR op_isN (pv 0) pe_non (nomark _)) (pe_one (pe_cD D_is_whole (hr.less (by decide)) rfl (pa_cons (pv 0) pa_nil)))))), ?_⟩)
  · obtain ⟨i, rfl, _⟩ := h; rfl
  · obtain ⟨o, rfl, q⟩ := h
    cases o with
    | none => exact ⟨_, rfl, rfl, _, rfl, iteT q⟩
    | some i => exact ⟨_, rfl, rfl, _, rfl, iteF ⟨_, rfl, i, rfl, q⟩⟩
def spIsDeed (K : PySem.W.Frag) : Sp := fun vs H Q _ => ∃ a d, vs = [.ref a] ∧ DeedArg K H a d ∧ Q (.bl true) H
theorem k_is_deed (D : Df K mg "is_deed" s_is_deed ["thing"]) (D_is_whole : Dn P w K mg base 1 "is_whole" ["thing"] spIsWhole) (D_is_row_of : Dn P w K mg base 1 "is_row_of" ["thing", "many"] (spIsRow K)) (D_is_end : Dn P w K mg base 2 "is_end" ["thing"] spIsEnd) : Dn P w K mg base 3 "is_deed" ["thing"] (spIsDeed K) := by
  refine D.ok fun f fd F => okG0 F sc_is_deed (fun vs H Q E h => ?_) (fun cdv A outer s H vs Q E hr h => ⟨_, (pss_cons (ps_if (PW.pt (pw_or (pt_not (pt_val (pe_cD D_is_row_of (hr.less (by decide)) rfl (pa_cons (pv 0) (pa_cons pe_int pa_nil))))) (pw_or (pt_not (pt_val (pe_cD D_is_whole (hr.less (by decide)) rfl (pa_cons (pe_ix (kk (K := K) (F := rIxT) (P := IxR _) ix_tup) (pv 0) pe_int (fun _ _ => rfl)) pa_nil)))) (pw_or (pt_not (pt_val (pe_cD D_is_end (hr.less (by decide)) rfl (pa_cons (pe_ix (kk (K := K) (F := rIxT) (P := IxR _) ix_tup) (pv 0) pe_int (fun _ _ => rfl)) pa_nil)))) (pw_or1 (pt_not (pt_val (pe_cD D_is_end (hr.less (by decide)) rfl (pa_cons (pe_ix (kk (K := K) (F := rIxT) (P := IxR _) ix_tup) (pv 0) pe_int (fun _ _ => rfl)) pa_nil)))))))))
      (pss_one (ps_ret pe_bl))
      pss_nil)
    (pss_cons (ps_asg (pv 0) (kk (K := K) (F := fun K => gTup K 3 _) (P := PG _ _) (pg_tup rfl (pgs_cons (pg_name (i := 1) sc_is_deed.nd rfl (Or.inl rfl)) (pgs_cons (pg_name (i := 2) sc_is_deed.nd rfl (Or.inl rfl)) (pgs_cons (pg_name (i := 3) sc_is_deed.nd rfl (Or.inl rfl)) pgs_nil))))))
    (pss_cons (ps_if (PW.pt (pw_or (pt_cmpR op_isN (pv 2) pe_non (nomark _)) (pw_or1 (pt_cmpR op_isN (pv 3) pe_non (nomark _)))))
      (pss_one (ps_ret pe_bl))
      pss_nil)
    (pss_one (ps_ret (pe_or (pe_cmpR op_lt (pv 2) (pv 3) (nomark _)) (pe_one (pe_and (pe_cmpR op_eq (pv 2) (pv 3) (nomark _)) (pe_one (pe_cmpR op_eq (pv 1) pe_int (nomark _))))))))))), ?_⟩)
  · obtain ⟨a, d, rfl, _⟩ := h; rfl
  · obtain ⟨a, d, rfl, ⟨ht, hx, ok⟩, q⟩ := h
    refine ⟨_, rfl, a, _, 3, rfl, ht, hx, _, rfl, iteF ?_⟩
    refine ⟨_, rfl, a, _, _, _, rfl, rfl, hx, at_of (j := 0) rfl rfl, _, rfl, _, rfl, iteF ?_⟩
    refine ⟨_, rfl, a, _, _, _, rfl, rfl, hx, at_of (j := 1) rfl rfl, d.low, rfl, _, rfl, iteF ?_⟩
    refine ⟨_, rfl, a, _, _, _, rfl, rfl, hx, at_of (j := 2) rfl rfl, d.high, rfl, _, rfl, iteF ?_⟩
    refine ⟨_, rfl, a, _, rfl, hx, rfl, _, _, rfl, _, _, rfl, _, _, rfl, rfl, ?_⟩
    obtain ⟨add, low, high⟩ := d
    cases low with
    | none => exact ⟨_, rfl, rfl, _, rfl, iteT (iteT q)⟩
    | some l =>
      refine ⟨_, rfl, rfl, _, rfl, iteF ?_⟩
      cases high with
      | none => exact ⟨_, rfl, rfl, _, rfl, iteT q⟩
      | some h =>
        refine ⟨_, rfl, rfl, _, rfl, iteF ?_⟩
        refine ⟨_, rfl, _, rfl, _, _, rfl, rfl, _, rfl, ite2 (fun c => q) (fun c => ?_)⟩
        have := ok l h rfl rfl
        have c' : ¬ l < h := of_decide_eq_false (Bool.eq_false_iff.mpr c)
        obtain ⟨e1, e2⟩ : l = h ∧ add = 0 := by
          rcases this with h1 | h1
          · exact absurd h1 c'
          · exact h1
        subst e1 e2
        refine ⟨_, rfl, _, rfl, rfl, _, rfl, ?_⟩
        exact ifT (decide_eq_true rfl) ⟨_, rfl, rfl, q⟩
def spWantDeed (K : PySem.W.Frag) : Sp := fun vs H Q _ => ∃ a d, vs = [.ref a] ∧ DeedArg K H a d ∧ Q .non H
theorem k_want_deed (D : Df K mg "want_deed" s_want_deed ["thing"]) (D_is_deed : Dn P w K mg base 3 "is_deed" ["thing"] (spIsDeed K)) : Dn P w K mg base 4 "want_deed" ["thing"] (spWantDeed K) := by
  refine D.ok fun f fd F => okG0 F sc_want_deed (fun vs H Q E h => ?_) (fun cdv A outer s H vs Q E hr h => ⟨_, (pss_one (ps_if (pt_not (pt_val (pe_cD D_is_deed (hr.less (by decide)) rfl (pa_cons (pv 0) pa_nil))))
     (pss_one ps_never)
     pss_nil)), ?_⟩)
  · obtain ⟨a, d, rfl, _⟩ := h; rfl
  · obtain ⟨a, d, rfl, hd, q⟩ := h
    exact ⟨_, rfl, a, d, rfl, hd, _, rfl, iteF q⟩
def spPut (K : PySem.W.Frag) : Sp := fun vs H Q _ => ∃ a d v, vs = [.ref a, .int v] ∧ SqT K H a (Dd.vs d) ∧ Q (.int (d.ap v)) H
theorem k_put_through (D : Df K mg "put_through" s_put_through ["deed", "value"]) : Dn P w K mg base 1 "put_through" ["deed", "value"] (spPut K) := by
  refine D.ok fun f fd F => okG0 F sc_put_through (fun vs H Q E h => ?_) (fun cdv A outer s H vs Q E hr h => ⟨_, (pss_cons (ps_asg (pv 0) (kk (K := K) (F := fun K => gTup K 3 _) (P := PG _ _) (pg_tup rfl (pgs_cons (pg_name (i := 2) sc_put_through.nd rfl (Or.inl rfl)) (pgs_cons (pg_name (i := 3) sc_put_through.nd rfl (Or.inl rfl)) (pgs_cons (pg_name (i := 4) sc_put_through.nd rfl (Or.inl rfl)) pgs_nil))))))
    (pss_cons (ps_set (i := 5) sc_put_through.nd rfl (Or.inl rfl) (pe_op op_add (pv 1) (pv 2)))
    (pss_cons (ps_if (pt_cmpR op_notN (pv 3) pe_non (nomark _))
      (pss_one (ps_set (i := 5) sc_put_through.nd rfl (Or.inl rfl) (pe_callB (call_max2 rfl) (by rfl) B.max_ (by decide +kernel) (pa_cons (pv 3) (pa_cons (pv 5) pa_nil)))))
      pss_nil)
    (pss_one (ps_ret (pe_ifExp (pt_cmpR op_isN (pv 4) pe_non (nomark _)) (pv 5) (pe_callB (call_min2 rfl) (by rfl) B.min_ (by decide +kernel) (pa_cons (pv 4) (pa_cons (pv 5) pa_nil))))))))), ?_⟩)
  · obtain ⟨a, d, v, rfl, _⟩ := h; rfl
  · obtain ⟨a, d, v, rfl, hx, q⟩ := h
    refine ⟨_, rfl, a, _, rfl, hx, rfl, _, _, rfl, _, _, rfl, _, _, rfl, rfl, ?_⟩
    refine ⟨_, rfl, _, rfl, _, _, rfl, rfl, ?_⟩
    obtain ⟨add, low, high⟩ := d
    cases low with
    | none =>
      refine ⟨_, rfl, rfl, _, rfl, iteF ?_⟩
      cases high with
      | none => exact ⟨_, rfl, rfl, _, rfl, iteT ⟨_, rfl, q⟩⟩
      | some h => exact ⟨_, rfl, rfl, _, rfl, iteF ⟨_, rfl, _, rfl, _, _, rfl, q⟩⟩
    | some l =>
      refine ⟨_, rfl, rfl, _, rfl, iteT ⟨_, rfl, _, rfl, _, _, rfl, ?_⟩⟩
      cases high with
      | none => exact ⟨_, rfl, rfl, _, rfl, iteT ⟨_, rfl, q⟩⟩
      | some h => exact ⟨_, rfl, rfl, _, rfl, iteF ⟨_, rfl, _, rfl, _, _, rfl, q⟩⟩
def spWholeDeed : Sp := fun vs H Q _ => ∃ (add : Int) (low high : Option Int), vs = [.int add, oV low, oV high] ∧ NewD H Q (wholeD add low high)
theorem k_whole_deed (D : Df K mg "whole_deed" s_whole_deed ["add", "low", "high"]) : Dn P w K mg base 1 "whole_deed" ["add", "low", "high"] spWholeDeed := by
  refine D.ok fun f fd F => okG0 F sc_whole_deed (fun vs H Q E h => ?_) (fun cdv A outer s H vs Q E hr h => ⟨_, (pss_cons (ps_if (PW.pt (pw_and (pt_cmpR op_notN (pv 1) pe_non (nomark _)) (pw_and1 (pt_cmpR op_eq (pv 1) (pv 2) (nomark _)))))
      (pss_one (ps_ret (pe_tup (pa_cons pe_int (pa_cons (pv 1) (pa_cons (pv 2) pa_nil))))))
      pss_nil)
    (pss_one (ps_ret (pe_tup (pa_cons (pv 0) (pa_cons (pv 1) (pa_cons (pv 2) pa_nil))))))), ?_⟩)
  · obtain ⟨add, low, high, rfl, _⟩ := h; rfl
  · obtain ⟨add, low, high, rfl, q⟩ := h
    have key : ∀ d : Dd, wholeD add low high = d → tRet (tTup (tCons (tC (.int d.add)) (tCons (tC (oV d.low)) (tCons (tC (oV d.high)) tNil)))) { nx := fun _ H' => Q .non H', rt := Q } (start ["add", "low", "high"] [.int add, oV low, oV high]) H := by
      rintro d rfl
      exact ⟨sz, fun p hp => q p _ (same_new hp _) hp upd_same⟩
    cases low with
    | none =>
      refine ⟨_, rfl, rfl, _, rfl, iteF (iteF ?_)⟩
      have := key ⟨add, none, high⟩ (if_neg fun z => z.1 rfl)
      exact ⟨_, rfl, _, rfl, _, rfl, this⟩
    | some l =>
      refine ⟨_, rfl, rfl, _, rfl, iteT ⟨_, rfl, _, rfl, ?_⟩⟩
      cases high with
      | none =>
        have := key ⟨add, some l, none⟩ (if_neg fun z => nomatch z.2)
        exact ⟨rfl, _, rfl, iteF ⟨_, rfl, _, rfl, _, rfl, this⟩⟩
      | some h =>
        refine ⟨rfl, _, rfl, ite2 (fun c => ?_) (fun c => ?_)⟩
        · have c' : l = h := by have := of_decide_eq_true c; cases this; rfl
          have := key ⟨0, some l, some h⟩ (if_pos ⟨Option.some_ne_none l, by rw [c']⟩)
          exact ⟨_, rfl, _, rfl, this⟩
        · have c' : ¬ l = h := fun e => c (decide_eq_true (by rw [e]))
          have := key ⟨add, some l, some h⟩ (if_neg fun z => c' (Option.some.inj z.2))
          exact ⟨_, rfl, _, rfl, _, rfl, this⟩
def spBehind (K : PySem.W.Frag) : Sp := fun vs H Q _ => ∃ (a b : Addr) (d e : Dd), vs = [.ref a, .ref b] ∧ SqT K H a d.vs ∧ SqT K H b e.vs ∧ NewD H Q (beh d e)
theorem k_one_behind (D : Df K mg "one_behind" s_one_behind ["one", "other"]) (D_put_through : Dn P w K mg base 1 "put_through" ["deed", "value"] (spPut K)) (D_whole_deed : Dn P w K mg base 1 "whole_deed" ["add", "low", "high"] spWholeDeed) : Dn P w K mg base 2 "one_behind" ["one", "other"] (spBehind K) := by
  refine D.ok fun f fd F => okG0 F sc_one_behind (fun vs H Q E h => ?_) (fun cdv A outer s H vs Q E hr h => ⟨_, (pss_cons (ps_par (i := 2) (j := 3) rfl sc_one_behind.nd rfl rfl (by decide) rfl rfl (pa_cons (pe_ix (kk (K := K) (F := rIxT) (P := IxR _) ix_tup) (pv 1) pe_int (fun _ _ => rfl)) (pa_cons (pe_ix (kk (K := K) (F := rIxT) (P := IxR _) ix_tup) (pv 1) pe_int (fun _ _ => rfl)) pa_nil)) (by rfl))
    (pss_cons (ps_if (pt_cmpR op_notN (pe_ix (kk (K := K) (F := rIxT) (P := IxR _) ix_tup) (pv 0) pe_int (fun _ _ => rfl)) pe_non (nomark _))
      (pss_one (ps_set (i := 2) sc_one_behind.nd rfl (Or.inl rfl) (pe_cD D_put_through (hr.less (by decide)) rfl (pa_cons (pv 1) (pa_cons (pe_ix (kk (K := K) (F := rIxT) (P := IxR _) ix_tup) (pv 0) pe_int (fun _ _ => rfl)) pa_nil)))))
      pss_nil)
    (pss_cons (ps_if (pt_cmpR op_notN (pe_ix (kk (K := K) (F := rIxT) (P := IxR _) ix_tup) (pv 0) pe_int (fun _ _ => rfl)) pe_non (nomark _))
      (pss_one (ps_set (i := 3) sc_one_behind.nd rfl (Or.inl rfl) (pe_cD D_put_through (hr.less (by decide)) rfl (pa_cons (pv 1) (pa_cons (pe_ix (kk (K := K) (F := rIxT) (P := IxR _) ix_tup) (pv 0) pe_int (fun _ _ => rfl)) pa_nil)))))
      pss_nil)
    (pss_one (ps_ret (pe_cD D_whole_deed (hr.less (by decide)) rfl (pa_cons (pe_op op_add (pe_ix (kk (K := K) (F := rIxT) (P := IxR _) ix_tup) (pv 0) pe_int (fun _ _ => rfl)) (pe_ix (kk (K := K) (F := rIxT) (P := IxR _) ix_tup) (pv 1) pe_int (fun _ _ => rfl))) (pa_cons (pv 2) (pa_cons (pv 3) pa_nil))))))))), ?_⟩)
  · obtain ⟨a, b, d, e, rfl, _⟩ := h; rfl
  · obtain ⟨a, b, d, e, rfl, ha, hb, q⟩ := h
    refine ⟨_, rfl, b, _, _, _, rfl, rfl, hb, at_of (j := 1) rfl rfl, _, rfl, b, _, _, _, rfl, rfl, hb, at_of (j := 2) rfl rfl, _, _, rfl, ?_⟩
    refine ⟨_, rfl, a, _, _, _, rfl, rfl, ha, at_of (j := 1) rfl rfl, rfl, _, rfl, ?_⟩
    have fin : ∀ lo hi : Option Int, endBeh e d.low e.low = lo → endBeh e d.high e.high = hi → tRet (tCall spWholeDeed [] E0 (tCons (tOp (rI0 fun i j => V.int (i + j)) (tOp (rIxT K) (tVar 0) (tC (.int 0))) (tOp (rIxT K) (tVar 1) (tC (.int 0)))) (tCons (tVar 2) (tCons (tVar 3) tNil)))) { nx := fun _ H' => Q .non H', rt := Q }
        [some (.ref a), some (.ref b), some (oV lo), some (oV hi)] H := by
      rintro _ _ rfl rfl
      exact ⟨_, rfl, a, _, _, _, rfl, rfl, ha, at_of (j := 0) rfl rfl, _, rfl, b, _, _, _, rfl, rfl, hb, at_of (j := 0) rfl rfl, _, _, rfl, rfl, _, rfl, _, rfl, _, _, _, rfl, q⟩
    have hi : ∀ lo : Option Int, endBeh e d.low e.low = lo → tSeq (tIfS (tTest (tOp (fun x y H Q => y = V.non ∧ Q (V.bl (!decide (x = V.non))) H) (tOp (rIxT K) (tVar 0) (tC (.int 2))) (tC .non))) (tAsg (tCall (spPut K) [] E0 (tCons (tVar 1) (tCons (tOp (rIxT K) (tVar 0) (tC (.int 2))) tNil))) (gName 3)) tNext)
        (tRet (tCall spWholeDeed [] E0 (tCons (tOp (rI0 fun i j => V.int (i + j)) (tOp (rIxT K) (tVar 0) (tC (.int 0))) (tOp (rIxT K) (tVar 1) (tC (.int 0)))) (tCons (tVar 2) (tCons (tVar 3) tNil))))) { nx := fun _ H' => Q .non H', rt := Q }
        [some (.ref a), some (.ref b), some (oV lo), some (oV e.high)] H := by
      intro lo hlo
      refine ⟨_, rfl, a, _, _, _, rfl, rfl, ha, at_of (j := 2) rfl rfl, rfl, _, rfl, ?_⟩
      cases eh : d.high with
      | none => exact iteF (fin lo e.high hlo (by rw [eh] <;> rfl))
      | some k =>
        refine iteT ⟨_, rfl, _, rfl, a, _, _, _, rfl, rfl, ha, at_of (j := 2) rfl rfl, b, e, k, by rw [eh] <;> rfl, hb, ?_⟩
        exact fin lo (some _) hlo (by rw [eh] <;> rfl)
    cases el : d.low with
    | none => exact iteF (hi e.low (by rw [el] <;> rfl))
    | some k =>
      refine iteT ⟨_, rfl, _, rfl, a, _, _, _, rfl, rfl, ha, at_of (j := 1) rfl rfl, b, e, k, by rw [el] <;> rfl, hb, ?_⟩
      exact hi (some _) (by rw [el] <;> rfl)
/-! SPLIT -/
def spWantFrom : Sp := fun vs H Q _ => ∃ (i m : Int), vs = [.int i, .int m] ∧ m ≤ i ∧ Q .non H
theorem k_want_from (D : Df K mg "want_from" s_want_from ["thing", "least"]) (D_is_whole : Dn P w K mg base 1 "is_whole" ["thing"] spIsWhole) : Dn P w K mg base 2 "want_from" ["thing", "least"] spWantFrom := by
  refine D.ok fun f fd F => okG0 F sc_want_from (fun vs H Q E h => ?_) (fun cdv A outer s H vs Q E hr h => ⟨_, (pss_one (ps_if (PW.pt (pw_or (pt_not (pt_val (pe_cD D_is_whole (hr.less (by decide)) rfl (pa_cons (pv 0) pa_nil)))) (pw_or1 (pt_cmpR op_lt (pv 0) (pv 1) (nomark _)))))
     (pss_one ps_never)
     pss_nil)), ?_⟩)
  · obtain ⟨i, m, rfl, _⟩ := h; rfl
  · obtain ⟨i, m, rfl, hm, q⟩ := h
    exact ⟨_, rfl, i, rfl, _, rfl, iteF ⟨_, rfl, _, rfl, _, _, rfl, rfl, _, rfl, ifF (decide_eq_false (by omega)) q⟩⟩
def spAgain (K : PySem.W.Frag) : Sp := fun vs H Q _ => ∃ (a : Addr) (d : Dd) (n : Nat), vs = [.ref a, .int n] ∧ DeedArg K H a d ∧ d.add.natAbs < 2 ^ 10000 ∧ n < 2 ^ 10000 ∧ ∀ (r : Addr) H', Same H H' → TupAt K H' r (pw d n).vs → Q (.ref r) H'
theorem k_again (D : Df K mg "again" s_again ["deed", "many"]) (D_want_from : Dn P w K mg base 2 "want_from" ["thing", "least"] spWantFrom) (D_want_deed : Dn P w K mg base 4 "want_deed" ["thing"] (spWantDeed K)) (D_whole_deed : Dn P w K mg base 1 "whole_deed" ["add", "low", "high"] spWholeDeed) : Dn P w K mg base 5 "again" ["deed", "many"] (spAgain K) := by
  refine D.ok fun f fd F => okG0 F sc_again (fun vs H Q E h => ?_) (fun cdv A outer s H vs Q E hr h => ⟨_, (pss_cons (ps_expr (pe_cD D_want_from (hr.less (by decide)) rfl (pa_cons (pv 1) (pa_cons pe_int pa_nil))))
    (pss_cons (ps_expr (pe_cD D_want_deed (hr.less (by decide)) rfl (pa_cons (pv 0) pa_nil)))
    (pss_cons (ps_if (pt_cmpR op_eq (pv 1) pe_int (nomark _))
      (pss_one (ps_ret (pe_glob (v := .ref B.LOOK_.choose) (by rfl) B.LOOK_.choose_spec.1 rfl)))
      pss_nil)
    (pss_cons (ps_asg (pv 0) (kk (K := K) (F := fun K => gTup K 3 _) (P := PG _ _) (pg_tup rfl (pgs_cons (pg_name (i := 2) sc_again.nd rfl (Or.inl rfl)) (pgs_cons (pg_name (i := 3) sc_again.nd rfl (Or.inl rfl)) (pgs_cons (pg_name (i := 4) sc_again.nd rfl (Or.inl rfl)) pgs_nil))))))
    (pss_cons (ps_set (i := 5) sc_again.nd rfl (Or.inl rfl) (pe_op op_mulX (pe_op op_sub (pv 1) pe_int) (pv 2)))
    (C8.pss_cut (ps_if (PW.pt (pw_and (pt_cmpR op_notN (pv 3) pe_non (nomark _)) (pw_and1 (pt_cmpR op_gt (pv 5) pe_int (nomark _)))))
      (pss_one (ps_set (i := 3) sc_again.nd rfl (Or.inl rfl) (pe_ifExp (pt_cmpR op_isN (pv 4) pe_non (nomark _)) (pe_op op_add (pv 3) (pv 5)) (pe_callB (call_min2 rfl) (by rfl) B.min_ (by decide +kernel) (pa_cons (pv 4) (pa_cons (pe_op op_add (pv 3) (pv 5)) pa_nil))))))
      pss_nil)
    (C8.pss_cut (ps_if (PW.pt (pw_and (pt_cmpR op_notN (pv 4) pe_non (nomark _)) (pw_and1 (pt_cmpR op_lt (pv 5) pe_int (nomark _)))))
      (pss_one (ps_set (i := 4) sc_again.nd rfl (Or.inl rfl) (pe_ifExp (pt_cmpR op_isN (pv 3) pe_non (nomark _)) (pe_op op_add (pv 4) (pv 5)) (pe_callB (call_max2 rfl) (by rfl) B.max_ (by decide +kernel) (pa_cons (pv 3) (pa_cons (pe_op op_add (pv 4) (pv 5)) pa_nil))))))
      pss_nil)
    (pss_one (ps_ret (pe_cD D_whole_deed (hr.less (by decide)) rfl (pa_cons (pe_op op_mulX (pv 1) (pv 2)) (pa_cons (pv 3) (pa_cons (pv 4) pa_nil))))))))))))), ?_⟩)
  · obtain ⟨a, d, n, rfl, _⟩ := h; rfl
  · obtain ⟨a, d, n, rfl, ha, hd, hn, q⟩ := h
    refine ⟨_, rfl, _, 0, rfl, by omega, _, rfl, a, d, rfl, ha, _, rfl, rfl, _, rfl, ite2 (fun c => ?_) (fun c => ?_)⟩
    · have c' : n = 0 := by have := V.int.inj (of_decide_eq_true c); omega
      subst c'
      exact q _ H (Same.refl H) (.inr B.LOOK_.choose_spec.2)
    have c' : 0 < n := by
      rcases Nat.eq_zero_or_pos n with e | e
      · exact absurd (by rw [e] <;> rfl) c
      · exact e
    obtain ⟨m, rfl⟩ : ∃ m, n = m + 1 := ⟨n - 1, by omega⟩
    have hfin : agn d (((m + 1 : Nat) : Int)) = pw d (m + 1) := agn_pw ha.2.2 m
    refine ⟨_, rfl, a, _, rfl, ha.2.1, rfl, _, _, rfl, _, _, rfl, _, _, rfl, rfl, ?_⟩
    refine ⟨_, rfl, _, _, rfl, rfl, _, rfl, _, _, rfl, rfl, mulx 10001 10000 (by omega) hd, ?_⟩
    have hfar : ∃ far : Int, far = (((m + 1 : Nat) : Int) - 1) * d.add := ⟨_, rfl⟩
    obtain ⟨far, efar⟩ := hfar
    have eA : agn d (((m + 1 : Nat) : Int)) = wholeD (((m + 1 : Nat) : Int) * d.add) (agL d far) (agH d far) := by rw [efar] <;> rfl
    rw [hfin] at eA
    refine ⟨fun σ H2 => H2 = H ∧ σ = [some (.ref a), some (.int ((m + 1 : Nat) : Int)), some (.int d.add), some (oV (agL d far)), some (oV d.high), some (.int far)], ?_, ?_⟩
    · subst efar
      cases e1 : d.low with
      | none => exact ⟨_, rfl, rfl, _, rfl, iteF (iteF ⟨rfl, by rw [agL_n e1] <;> rfl⟩)⟩
      | some l =>
        refine ⟨_, rfl, rfl, _, rfl, iteT ⟨_, rfl, _, _, rfl, rfl, _, rfl, ite2 (fun c => ?_) (fun c => ?_)⟩⟩
        · have c2 : (((m + 1 : Nat) : Int) - 1) * d.add > 0 := of_decide_eq_true c
          cases e2 : d.high with
          | none => exact ⟨_, rfl, rfl, _, rfl, iteT ⟨_, rfl, _, rfl, _, _, rfl, rfl, rfl, by rw [agL_p e1 e2 c2] <;> rfl⟩⟩
          | some h => exact ⟨_, rfl, rfl, _, rfl, iteF ⟨_, rfl, _, rfl, _, rfl, _, _, rfl, rfl, _, _, rfl, rfl, by rw [agL_q e1 e2 c2] <;> rfl⟩⟩
        · have c2 : ¬ (((m + 1 : Nat) : Int) - 1) * d.add > 0 := of_decide_eq_false (Bool.eq_false_iff.mpr c)
          exact ⟨rfl, by rw [agL_z e1 c2] <;> rfl⟩
    rintro _ H2 ⟨rfl, rfl⟩
    refine ⟨fun σ H3 => H3 = H2 ∧ σ = [some (.ref a), some (.int ((m + 1 : Nat) : Int)), some (.int d.add), some (oV (agL d far)), some (oV (agH d far)), some (.int far)], ?_, ?_⟩
    · cases e2 : d.high with
      | none => exact ⟨_, rfl, rfl, _, rfl, iteF (iteF ⟨rfl, by rw [agH_n e2] <;> rfl⟩)⟩
      | some h =>
        refine ⟨_, rfl, rfl, _, rfl, iteT ⟨_, rfl, _, _, rfl, rfl, _, rfl, ite2 (fun c => ?_) (fun c => ?_)⟩⟩
        · have c2 : far < 0 := of_decide_eq_true c
          cases e1 : d.low with
          | none =>
            rw [agL_n e1, agH_p e2 e1 c2]
            exact ⟨_, rfl, rfl, _, rfl, iteT ⟨_, rfl, _, rfl, _, _, rfl, rfl, rfl, rfl⟩⟩
          | some l =>
            rw [agL_z e1 (show ¬ far > 0 by omega), agH_q e2 e1 c2]
            exact ⟨_, rfl, rfl, _, rfl, iteF ⟨_, rfl, _, rfl, _, rfl, _, _, rfl, rfl, _, _, rfl, rfl, rfl⟩⟩
        · have c2 : ¬ far < 0 := of_decide_eq_false (Bool.eq_false_iff.mpr c)
          exact ⟨rfl, by rw [agH_z e2 c2] <;> rfl⟩
    rintro _ _ ⟨rfl, rfl⟩
    refine ⟨_, rfl, _, rfl, _, _, rfl, rfl, mulx 10001 10000 (by omega) hd, _, rfl, _, rfl, _, _, _, rfl, fun r H4 S4 n4 h4 => q r H4 S4 (.inl ?_)⟩
    rw [h4, eA]
def spIsWithin : Sp := fun vs H Q _ => ∃ i a b : Int, vs = [.int i, .int a, .int b] ∧ a ≤ i ∧ i ≤ b ∧ Q (.bl true) H
theorem k_is_within (D : Df K mg "is_within" s_is_within ["thing", "least", "most"]) (D_is_whole : Dn P w K mg base 1 "is_whole" ["thing"] spIsWhole) : Dn P w K mg base 2 "is_within" ["thing", "least", "most"] spIsWithin := by
  refine D.ok fun f fd F => okG0 F sc_is_within (fun vs H Q E h => ?_) (fun cdv A outer s H vs Q E hr h => ⟨_, (pss_one (ps_ret (pe_and (pe_cD D_is_whole (hr.less (by decide)) rfl (pa_cons (pv 0) pa_nil)) (pe_one (pe_chain op_le op_le (pv 1) (pv 0) (pv 2)))))), ?_⟩)
  · obtain ⟨i, a, b, rfl, _⟩ := h; rfl
  · obtain ⟨i, a, b, rfl, h1, h2, q⟩ := h
    refine ⟨_, rfl, i, rfl, _, rfl, iteT ?_⟩
    refine ⟨_, rfl, _, rfl, _, _, rfl, rfl, _, rfl, ifT (decide_eq_true h1) ⟨_, rfl, _, _, rfl, rfl, ?_⟩⟩
    exact (show Q (.bl (decide (i ≤ b))) H by rw [decide_eq_true h2]; exact q)
def spWantWithin : Sp := fun vs H Q _ => ∃ i a b : Int, vs = [.int i, .int a, .int b] ∧ a ≤ i ∧ i ≤ b ∧ Q .non H
theorem k_want_within (D : Df K mg "want_within" s_want_within ["thing", "least", "most"]) (D_is_within : Dn P w K mg base 2 "is_within" ["thing", "least", "most"] spIsWithin) : Dn P w K mg base 3 "want_within" ["thing", "least", "most"] spWantWithin := by
  refine D.ok fun f fd F => okG0 F sc_want_within (fun vs H Q E h => ?_) (fun cdv A outer s H vs Q E hr h => ⟨_, (pss_one (ps_if (pt_not (pt_val (pe_cD D_is_within (hr.less (by decide)) rfl (pa_cons (pv 0) (pa_cons (pv 1) (pa_cons (pv 2) pa_nil))))))
     (pss_one ps_never)
     pss_nil)), ?_⟩)
  · obtain ⟨i, a, b, rfl, _⟩ := h; rfl
  · obtain ⟨i, a, b, rfl, h1, h2, q⟩ := h
    exact ⟨_, rfl, _, rfl, _, rfl, i, a, b, rfl, h1, h2, _, rfl, iteF q⟩
def spWantMany : Sp := fun vs H Q _ => ∃ i : Int, vs = [.int i] ∧ 1 ≤ i ∧ i ≤ 40 ∧ Q .non H
theorem k_want_many (D : Df K mg "want_many" s_want_many ["many"]) (D_want_within : Dn P w K mg base 3 "want_within" ["thing", "least", "most"] spWantWithin) : Dn P w K mg base 4 "want_many" ["many"] spWantMany := by
  refine D.ok fun f fd F => okG0 F sc_want_many (fun vs H Q E h => ?_) (fun cdv A outer s H vs Q E hr h => ⟨_, (pss_one (ps_expr (pe_cD D_want_within (hr.less (by decide)) rfl (pa_cons (pv 0) (pa_cons pe_int (pa_cons (pe_glob (v := .int (40)) (u := .int (40) B.MOST_DEEDS_.choose) (by rfl) B.MOST_DEEDS_.choose_spec ⟨_, rfl⟩) pa_nil)))))), ?_⟩)
  · obtain ⟨i, rfl, _⟩ := h; rfl
  · obtain ⟨i, rfl, h1, h2, q⟩ := h
    exact ⟨_, rfl, i, 1, 40, rfl, h1, h2, q⟩
def spIsBoard (K : PySem.W.Frag) : Sp := fun vs H Q _ => ∃ (b : Addr) (bs : List Int), vs = [.ref b] ∧ BoardAt H b bs ∧ ∀ H', Same H H' → Q (.bl true) H'
theorem k_is_board (D : Df K mg "is_board" s_is_board ["thing"]) (D_is_whole : Dn P w K mg base 1 "is_whole" ["thing"] spIsWhole) : Dn P w K mg base 2 "is_board" ["thing"] (spIsBoard K) := by
  refine D.ok fun f fd F => okG0 F sc_is_board (fun vs H Q E h => ?_) (fun cdv A outer s H vs Q E hr h => ⟨_, (pss_one (ps_ret (pe_and (pe_callB (kk (K := K) (F := rIsi) (P := CallR _ _) call_isi) (by rfl) B.isinstance_ (by decide +kernel) (pa_cons (pv 0) (pa_cons (pe_bltn (v := .ty "tuple") (u := .type "tuple") (by rfl) B.tuple_ (by decide +kernel) rfl) pa_nil))) (pe_and (pe_chain op_le op_le pe_int (pe_callB (lenK (K := K)) (by rfl) B.len_ (by decide +kernel) (pa_cons (pv 0) pa_nil)) (pe_glob (v := .int (16)) (u := .int (16) B.MOST_BOXES_.choose) (by rfl) B.MOST_BOXES_.choose_spec ⟨_, rfl⟩)) (pe_one (pe_callB (kk (K := K) (F := rAll) (P := CallR _ _) (cr_all rfl)) (by rfl) B.all_ (by decide +kernel) (pa_cons (pe_lc (own := [("value", 1)]) (g := gName 1) (tt := tYes) rfl sc_is_board.nd (kk (K := K) (F := fun K => iTup K _) (P := PI _ _ _) (pi_tup (pv 0))) (blkOk_by (own := [("value", 1)]) (N := ["thing", "value"]) (sc := defScope s_is_board) (by decide +kernel)) (fun _ _ _ _ _ => (pg_name (i := 1) sc_is_board.nd rfl (Or.inl rfl))) (fun _ _ _ _ _ => pts_nil) (fun _ _ _ _ _ => (pe_cD D_is_whole (hr.less (by decide)) rfl (pa_cons (pv 1) pa_nil)))) pa_nil))))))), ?_⟩)
  · obtain ⟨b, bs, rfl, _⟩ := h; rfl
  · obtain ⟨b, bs, rfl, hb, q⟩ := h
    have hl := hb.2
    refine ⟨_, rfl, _, _, _, _, _, rfl, .ty _, .base (.tup hb.1), kit_ty (b := "tuple") (r := true) (by decide +kernel), _, rfl, iteT ?_⟩
    refine ⟨_, rfl, b, _, rfl, .inr (SqT.of hb.1), ?_⟩
    refine ⟨_, _, rfl, rfl, _, rfl, ifT (by rw [List.length_map]; exact decide_eq_true (by omega)) ?_⟩
    refine ⟨_, _, rfl, rfl, _, rfl, ifT (by rw [List.length_map]; exact decide_eq_true (by omega)) ?_⟩
    refine ⟨_, rfl, b, rfl, ⟨_, SqT.of hb.1⟩, fun D hD => ?_⟩
    refine lc_tup (K := K) (a := b) (xs := bs.map V.int) (fun i H2 => Same H H2 ∧ H2 D = some (.lst ((List.replicate i true).map V.bl))) ⟨same_new hD _, upd_same⟩ (fun i H2 _ h => SqT.of (h.1 _ _ hb.1)) ?_ ?_
    · rintro i y H2 hi ⟨S2, hD2⟩
      obtain ⟨x, rfl, hx⟩ := at_map hi
      have hi2 : i < bs.length := (List.getElem?_eq_some_iff.mp hx).1
      refine ⟨rfl, ?_⟩
      exact ⟨_, rfl, x, rfl, _, hD2, by rw [rep_len]; exact small1000 (by omega), but_same hD S2 But.upd, by rw [upd_same, rep_snoc]⟩
    · rintro H2 ⟨S2, hD2⟩
      refine ⟨D, _, rfl, SqL.of hD2, ?_⟩
      rw [rep_all]
      exact q _ S2
def spWantBoard (K : PySem.W.Frag) : Sp := fun vs H Q _ => ∃ (b : Addr) (bs : List Int), vs = [.ref b] ∧ BoardAt H b bs ∧ ∀ H', Same H H' → Q .non H'
theorem k_want_board (D : Df K mg "want_board" s_want_board ["board"]) (D_is_board : Dn P w K mg base 2 "is_board" ["thing"] (spIsBoard K)) : Dn P w K mg base 3 "want_board" ["board"] (spWantBoard K) := by
  refine D.ok fun f fd F => okG0 F sc_want_board (fun vs H Q E h => ?_) (fun cdv A outer s H vs Q E hr h => ⟨_, (pss_one (ps_if (pt_not (pt_val (pe_cD D_is_board (hr.less (by decide)) rfl (pa_cons (pv 0) pa_nil))))
     (pss_one ps_never)
     pss_nil)), ?_⟩)
  · obtain ⟨b, bs, rfl, _⟩ := h; rfl
  · obtain ⟨b, bs, rfl, hb, q⟩ := h
    exact ⟨_, rfl, b, bs, rfl, hb, fun H' S => ⟨_, rfl, iteF (q _ S)⟩⟩
def spIsAsk (K : PySem.W.Frag) : Sp := fun vs H Q _ => ∃ (b : Addr) (bs : List Int) (x : Ak), vs = [.ref b, .ref x.a] ∧ BoardAt H b bs ∧ x.at_ K H bs.length ∧ Q (.bl true) H
theorem k_is_ask (D : Df K mg "is_ask" s_is_ask ["board", "thing"]) (D_is_whole : Dn P w K mg base 1 "is_whole" ["thing"] spIsWhole) (D_is_deed : Dn P w K mg base 3 "is_deed" ["thing"] (spIsDeed K)) : Dn P w K mg base 4 "is_ask" ["board", "thing"] (spIsAsk K) := by
  refine D.ok fun f fd F => okG0 F sc_is_ask (fun vs H Q E h => ?_) (fun cdv A outer s H vs Q E hr h => ⟨_, (pss_cons (ps_if (PW.pt (pw_or (pt_not (pt_val (pe_callB (kk (K := K) (F := rIsi) (P := CallR _ _) call_isi) (by rfl) B.isinstance_ (by decide +kernel) (pa_cons (pv 1) (pa_cons (pe_bltn (v := .ty "tuple") (u := .type "tuple") (by rfl) B.tuple_ (by decide +kernel) rfl) pa_nil))))) (pw_or (pt_cmpR op_ne (pe_callB (lenK (K := K)) (by rfl) B.len_ (by decide +kernel) (pa_cons (pv 1) pa_nil)) pe_int (nomark _)) (pw_or (pt_not (pt_val (pe_cD D_is_whole (hr.less (by decide)) rfl (pa_cons (pe_ix (kk (K := K) (F := rIxT) (P := IxR _) ix_tup) (pv 1) pe_int (fun _ _ => rfl)) pa_nil)))) (pw_or1 (pt_not (pt_val (pe_cD D_is_whole (hr.less (by decide)) rfl (pa_cons (pe_ix (kk (K := K) (F := rIxT) (P := IxR _) ix_tup) (pv 1) pe_int (fun _ _ => rfl)) pa_nil)))))))))
      (pss_one (ps_ret pe_bl))
      pss_nil)
    (pss_one (ps_ret (pe_and (pe_chain op_le op_lt pe_int (pe_ix (kk (K := K) (F := rIxT) (P := IxR _) ix_tup) (pv 1) pe_int (fun _ _ => rfl)) (pe_glob (v := .int (16)) (u := .int (16) B.HANDS_.choose) (by rfl) B.HANDS_.choose_spec ⟨_, rfl⟩)) (pe_and (pe_chain op_le op_lt pe_int (pe_ix (kk (K := K) (F := rIxT) (P := IxR _) ix_tup) (pv 1) pe_int (fun _ _ => rfl)) (pe_callB (lenK (K := K)) (by rfl) B.len_ (by decide +kernel) (pa_cons (pv 0) pa_nil))) (pe_one (pe_cD D_is_deed (hr.less (by decide)) rfl (pa_cons (pe_ix (kk (K := K) (F := rIxT) (P := IxR _) ix_tup) (pv 1) pe_int (fun _ _ => rfl)) pa_nil)))))))), ?_⟩)
  · obtain ⟨b, bs, x, rfl, _⟩ := h; rfl
  · obtain ⟨b, bs, x, rfl, hb, hx, q⟩ := h
    obtain ⟨hxa, hxd, h0, h1, hbx⟩ := hx
    refine ⟨_, rfl, _, _, _, _, _, rfl, .ty _, .base (.tup hxa), kit_ty (b := "tuple") (r := true) (by decide +kernel), _, rfl, iteF ?_⟩
    refine ⟨_, rfl, _, _, rfl, .inr (SqT.of hxa), rfl, _, rfl, iteF ?_⟩
    refine ⟨_, rfl, x.a, _, _, _, rfl, rfl, SqT.of hxa, at_of (j := 0) rfl rfl, _, rfl, _, rfl, iteF ?_⟩
    refine ⟨_, rfl, x.a, _, _, _, rfl, rfl, SqT.of hxa, at_of (j := 1) rfl rfl, _, rfl, _, rfl, iteF ?_⟩
    refine ⟨_, rfl, x.a, _, _, _, rfl, rfl, SqT.of hxa, at_of (j := 0) rfl rfl, ?_⟩
    refine ⟨_, _, rfl, rfl, _, rfl, ifT (decide_eq_true h0) ?_⟩
    refine ⟨_, _, rfl, rfl, _, rfl, ifT (decide_eq_true h1) ?_⟩
    refine ⟨_, rfl, x.a, _, _, _, rfl, rfl, SqT.of hxa, at_of (j := 1) rfl rfl, ?_⟩
    refine ⟨_, _, rfl, rfl, _, rfl, ifT (decide_eq_true (by omega)) ?_⟩
    refine ⟨_, rfl, b, _, rfl, .inr (SqT.of hb.1), ?_⟩
    refine ⟨_, _, rfl, rfl, _, rfl, ifT (decide_eq_true (by rw [List.length_map]; omega)) ?_⟩
    exact ⟨_, rfl, x.a, _, _, _, rfl, rfl, SqT.of hxa, at_of (j := 2) rfl rfl, x.da, x.d, rfl, hxd.arg, q⟩
def spAreAsks (K : PySem.W.Frag) : Sp := fun vs H Q _ => ∃ (b k : Addr) (bs : List Int) (as : List Ak), vs = [.ref b, .ref k] ∧ BoardAt H b bs ∧ AsksAt K H k as bs.length ∧ ∀ H', Same H H' → Q (.bl true) H'
theorem k_are_asks (D : Df K mg "are_asks" s_are_asks ["board", "thing"]) (D_want_board : Dn P w K mg base 3 "want_board" ["board"] (spWantBoard K)) (D_is_ask : Dn P w K mg base 4 "is_ask" ["board", "thing"] (spIsAsk K)) : Dn P w K mg base 5 "are_asks" ["board", "thing"] (spAreAsks K) := by
  refine D.ok fun f fd F => okG0 F sc_are_asks (fun vs H Q E h => ?_) (fun cdv A outer s H vs Q E hr h => ⟨_, (pss_cons (ps_expr (pe_cD D_want_board (hr.less (by decide)) rfl (pa_cons (pv 0) pa_nil)))
    (pss_one (ps_ret (pe_and (pe_callB (kk (K := K) (F := rIsi) (P := CallR _ _) call_isi) (by rfl) B.isinstance_ (by decide +kernel) (pa_cons (pv 1) (pa_cons (pe_bltn (v := .ty "tuple") (u := .type "tuple") (by rfl) B.tuple_ (by decide +kernel) rfl) pa_nil))) (pe_one (pe_callB (kk (K := K) (F := rAll) (P := CallR _ _) (cr_all rfl)) (by rfl) B.all_ (by decide +kernel) (pa_cons (pe_lc (own := [("one", 2)]) (g := gName 2) (tt := tYes) rfl sc_are_asks.nd (kk (K := K) (F := fun K => iTup K _) (P := PI _ _ _) (pi_tup (pv 1))) (blkOk_by (own := [("one", 2)]) (N := ["board", "thing", "one"]) (sc := defScope s_are_asks) (by decide +kernel)) (fun _ _ _ _ _ => (pg_name (i := 2) sc_are_asks.nd rfl (Or.inl rfl))) (fun _ _ _ _ _ => pts_nil) (fun _ _ _ _ _ => (pe_cD D_is_ask (hr.less (by decide)) rfl (pa_cons (pv 0) (pa_cons (pv 2) pa_nil))))) pa_nil))))))), ?_⟩)
  · obtain ⟨b, k, bs, as, rfl, _⟩ := h; rfl
  · obtain ⟨b, k, bs, as, rfl, hb, hk, q⟩ := h
    refine ⟨_, rfl, b, bs, rfl, hb, fun H1 S1 => ?_⟩
    have hk1 := hk.same S1
    refine ⟨_, rfl, _, _, _, _, _, rfl, .ty _, .base (.tup hk1.1), kit_ty (b := "tuple") (r := true) (by decide +kernel), _, rfl, iteT ?_⟩
    refine ⟨_, rfl, k, rfl, ⟨_, SqT.of hk1.1⟩, fun D hD => ?_⟩
    refine lc_tup (K := K) (a := k) (xs := as.map fun x => .ref x.a) (fun i H2 => Same H1 H2 ∧ H2 D = some (.lst ((List.replicate i true).map V.bl))) ⟨same_new hD _, upd_same⟩ (fun i H2 _ h => SqT.of (h.1 _ _ hk1.1)) ?_ ?_
    · rintro i y H2 hi ⟨S2, hD2⟩
      rw [List.getElem?_map] at hi
      obtain ⟨x, hx, rfl⟩ := Option.map_eq_some_iff.mp hi
      have hi2 : i < as.length := (List.getElem?_eq_some_iff.mp hx).1
      have hl := hk.2.1
      refine ⟨rfl, ?_⟩
      exact ⟨_, rfl, _, rfl, b, bs, x, rfl, (hb.same S1).same S2, ((hk1.2.2 x (List.mem_of_getElem? hx)).same S2), _, hD2, by rw [rep_len]; exact small1000 (by omega), but_same hD S2 But.upd, by rw [upd_same, rep_snoc]⟩
    · rintro H2 ⟨S2, hD2⟩
      refine ⟨D, _, rfl, SqL.of hD2, ?_⟩
      rw [rep_all]
      exact q _ (S1.trans S2)
def spWantAsks (K : PySem.W.Frag) : Sp := fun vs H Q _ => ∃ (b k : Addr) (bs : List Int) (as : List Ak), vs = [.ref b, .ref k] ∧ BoardAt H b bs ∧ AsksAt K H k as bs.length ∧ ∀ H', Same H H' → Q .non H'
theorem k_want_asks (D : Df K mg "want_asks" s_want_asks ["board", "asks"]) (D_are_asks : Dn P w K mg base 5 "are_asks" ["board", "thing"] (spAreAsks K)) : Dn P w K mg base 6 "want_asks" ["board", "asks"] (spWantAsks K) := by
  refine D.ok fun f fd F => okG0 F sc_want_asks (fun vs H Q E h => ?_) (fun cdv A outer s H vs Q E hr h => ⟨_, (pss_one (ps_if (pt_not (pt_val (pe_cD D_are_asks (hr.less (by decide)) rfl (pa_cons (pv 0) (pa_cons (pv 1) pa_nil)))))
     (pss_one ps_never)
     pss_nil)), ?_⟩)
  · obtain ⟨b, k, bs, as, rfl, _⟩ := h; rfl
  · obtain ⟨b, k, bs, as, rfl, hb, hk, q⟩ := h
    exact ⟨_, rfl, _, rfl, b, k, bs, as, rfl, hb, hk, fun H' S => ⟨_, rfl, iteF (q _ S)⟩⟩
def spPlay (K : PySem.W.Frag) : Sp := fun vs H Q _ => ∃ (b k : Addr) (bs : List Int) (as : List Ak), vs = [.ref b, .ref k] ∧ BoardAt H b bs ∧ AsksAt K H k as bs.length ∧
  ∀ r t1 t2 H', Same H H' → H' r = some (.tup [.ref t1, .ref t2]) → H' t1 = some (.tup ((play as bs).1.map V.int)) → H' t2 = some (.tup ((play as bs).2.map V.int)) → Q (.ref r) H'
theorem k_played (D : Df K mg "played" s_played ["board", "asks"]) (D_want_asks : Dn P w K mg base 6 "want_asks" ["board", "asks"] (spWantAsks K)) (D_put_through : Dn P w K mg base 1 "put_through" ["deed", "value"] (spPut K)) : Dn P w K mg base 7 "played" ["board", "asks"] (spPlay K) := by
  refine D.ok fun f fd F => okG0 F sc_played (fun vs H Q E h => ?_) (fun cdv A outer s H vs Q E hr h => ⟨_, (pss_cons (ps_expr (pe_cD D_want_asks (hr.less (by decide)) rfl (pa_cons (pv 0) (pa_cons (pv 1) pa_nil))))
    (pss_cons (ps_set (i := 2) sc_played.nd rfl (Or.inl rfl) (pe_callTy (lstOfK (K := K)) (by rfl) B.list_ (by decide +kernel) (pa_cons (pv 0) pa_nil)))
    (pss_cons (ps_set (i := 3) sc_played.nd rfl (Or.inl rfl) (pe_lst pa_nil))
    (pss_cons (ps_for PassesOwn.never rfl (kk (K := K) (F := fun K => iTup K _) (P := PI _ _ _) (pi_tup (pv 1))) (kk (K := K) (F := fun K => gTup K 3 _) (P := PG _ _) (pg_tup rfl (pgs_cons (pg_name (i := 4) sc_played.nd rfl (Or.inl rfl)) (pgs_cons (pg_name (i := 5) sc_played.nd rfl (Or.inl rfl)) (pgs_cons (pg_name (i := 6) sc_played.nd rfl (Or.inl rfl)) pgs_nil)))))
      (pss_cons (ps_expr (kk (K := K) (F := fun K => tBM K "list" _ _ _) (P := PE _ _) (pe_bm PySem.F.plainAttrs_list PySem.F.slot_list_append PySem.F.type_list_append mt_append (pv 3) (pa_cons (pe_ix (kk (K := K) (F := rIxL) (P := IxR _) ix_list) (pv 2) (pv 5) (fun _ _ => rfl)) pa_nil))))
      (pss_one (ps_asg (pe_cD D_put_through (hr.less (by decide)) rfl (pa_cons (pv 6) (pa_cons (pe_ix (kk (K := K) (F := rIxL) (P := IxR _) ix_list) (pv 2) (pv 5) (fun _ _ => rfl)) pa_nil))) (pg_sub (pv 2) (pv 5) set_list)))))
    (pss_one (ps_ret (pe_tup (pa_cons (pe_callTy (tupOfK (K := K)) (by rfl) B.tuple_ (by decide +kernel) (pa_cons (pv 3) pa_nil)) (pa_cons (pe_callTy (tupOfK (K := K)) (by rfl) B.tuple_ (by decide +kernel) (pa_cons (pv 2) pa_nil)) pa_nil))))))))), ?_⟩)
  · obtain ⟨b, k, bs, as, rfl, _⟩ := h; rfl
  · obtain ⟨b, k, bs, as, rfl, hb, hk, q⟩ := h
    refine ⟨_, rfl, _, rfl, b, k, bs, as, rfl, hb, hk, fun H1 S1 => ?_⟩
    have hb1 := hb.same S1
    have hk1 := hk.same S1
    refine ⟨_, rfl, b, _, rfl, .inr (SqT.of hb1.1), fun L hL => ⟨sz, fun M hM => ?_⟩⟩
    have S0 := S1
    have nLM : L ≠ M := ne_of_none upd_same hM
    have hM0 := (same_new hL (.lst (bs.map V.int))).free hM
    refine ⟨_, rfl, k, rfl, ⟨_, SqT.of ((same_new hM _) _ _ ((same_new hL _) _ _ hk1.1))⟩, ?_⟩
    refine for_tup (K := K) (a := k) (xs := as.map fun x => .ref x.a) (fun i σ H2 => ∃ v4 v5 v6 : Option V, σ = [some (.ref b), some (.ref k), some (.ref L), some (.ref M), v4, v5, v6] ∧ Same H1 H2 ∧ H2 L = some (.lst ((play (as.take i) bs).2.map V.int)) ∧ H2 M = some (.lst ((play (as.take i) bs).1.map V.int)))
      ⟨none, none, none, rfl, (same_new hL _).trans (same_new hM _), by rw [upd_ne nLM, upd_same] <;> rfl, upd_same⟩ (fun i σ H2 _ h => by obtain ⟨_, _, _, _, h2, _⟩ := h; exact SqT.of (h2 _ _ hk1.1)) ?_ ?_
    · rintro i y σ H2 hi ⟨v4, v5, v6, rfl, S2, hL2, hM2⟩
      rw [List.getElem?_map] at hi
      obtain ⟨x, hx, rfl⟩ := Option.map_eq_some_iff.mp hi
      have hil : i < as.length := (List.getElem?_eq_some_iff.mp hx).1
      obtain ⟨l1, l2⟩ := play_len (as := as.take i) (bs := bs)
      rw [play_snoc hx]
      generalize play (as.take i) bs = st at hL2 hM2 l1 l2
      have hx1 := (hk1.2.2 x (List.mem_of_getElem? hx)).same S2
      have hbx : x.box < st.2.length := by rw [l2]; exact hx1.2.2.2.2
      have h40 := hk.2.1
      have l1' : st.1.length ≤ 40 := by rw [l1, List.length_take]; omega
      refine ⟨x.a, _, rfl, SqT.of hx1.1, rfl, _, _, rfl, _, _, rfl, _, _, rfl, rfl, ?_⟩
      refine ⟨_, rfl, .inl ⟨rfl, _, SqL.of hM2⟩, _, rfl, _, rfl, L, _, _, _, rfl, rfl, SqL.of hL2, at_of (j := x.box) rfl (map_getD hbx), M, _, _, rfl, rfl, hM2, small1000 (by rw [List.length_map]; omega), ?_⟩
      have hL3 : (upd H2 M (.lst (st.1.map V.int ++ [.int (st.2.getD x.box 0)]))) L = some (.lst (st.2.map V.int)) := by rw [upd_ne nLM]; exact hL2
      refine ⟨_, rfl, _, rfl, _, rfl, L, _, _, _, rfl, rfl, SqL.of hL3, at_of (j := x.box) rfl (map_getD hbx), x.da, x.d, _, rfl, but_tup But.upd hM2 hx1.2.1.1.sq, ?_⟩
      refine ⟨_, rfl, _, rfl, L, _, _, _, rfl, rfl, hL3, ixn (by rw [List.length_map]; exact hbx), ?_⟩
      refine ⟨_, _, _, rfl, ?_, ?_, ?_⟩
      · exact fun a o ha => by rw [upd_ne (ne_of_none ha hL), upd_ne (ne_of_none ha hM0)]; exact S2 _ _ ha
      · rw [upd_same, ← List.map_set] <;> rfl
      · rw [upd_ne nLM.symm, upd_same, show (stepP st x).1 = st.1 ++ [st.2.getD x.box 0] from rfl, List.map_append] <;> rfl
    · rintro σ H2 ⟨v4, v5, v6, rfl, S2, hL2, hM2⟩
      rw [List.length_map, List.take_length] at hL2 hM2
      refine ⟨_, rfl, M, _, rfl, .inl ⟨SqL.of hM2, fun t1 ht1 => ?_⟩⟩
      have S3 := same_new ht1 (.tup ((play as bs).1.map V.int))
      refine ⟨_, rfl, L, _, rfl, .inl ⟨SqL.of (S3 _ _ hL2), fun t2 ht2 => ⟨sz, fun r hr => ?_⟩⟩⟩
      have S4 := same_new ht2 (.tup ((play as bs).2.map V.int))
      have S5 := same_new hr (.tup [.ref t1, .ref t2])
      exact q r t1 t2 _ (S0.trans (S2.trans (S3.trans (S4.trans S5)))) upd_same (S5 _ _ (S4 _ _ upd_same)) (S5 _ _ upd_same)
def spAll (K : PySem.W.Frag) : Sp := fun vs H Q _ => ∃ (b k : Addr) (bs : List Int) (as : List Ak), vs = [.ref b, .ref k] ∧ BoardAt H b bs ∧ AsksAt K H k as bs.length ∧
  ∀ (T : Addr) (ps : List (Addr × Dd)) (H' : Hp), Same H H' → H' T = some (.tup (ps.map fun x => V.ref x.1)) → dsOf ps = (madeOf as bs.length).2 → RefsAt K H' ps → Q (.ref T) H'
theorem k_all_of (D : Df K mg "all_of" s_all_of ["board", "asks"]) (D_want_asks : Dn P w K mg base 6 "want_asks" ["board", "asks"] (spWantAsks K)) (D_one_behind : Dn P w K mg base 2 "one_behind" ["one", "other"] (spBehind K)) : Dn P w K mg base 7 "all_of" ["board", "asks"] (spAll K) := by
  refine D.ok fun f fd F => okG0 F sc_all_of (fun vs H Q E h => ?_) (fun cdv A outer s H vs Q E hr h => ⟨_, (pss_cons (ps_expr (pe_cD D_want_asks (hr.less (by decide)) rfl (pa_cons (pv 0) (pa_cons (pv 1) pa_nil))))
    (pss_cons (ps_set (i := 2) sc_all_of.nd rfl (Or.inl rfl) (pe_op op_rep (pe_lst (pa_cons (pe_glob (v := .ref B.LOOK_.choose) (by rfl) B.LOOK_.choose_spec.1 rfl) pa_nil)) (pe_callB (lenK (K := K)) (by rfl) B.len_ (by decide +kernel) (pa_cons (pv 0) pa_nil))))
    (pss_cons (ps_for PassesOwn.never rfl (kk (K := K) (F := fun K => iTup K _) (P := PI _ _ _) (pi_tup (pv 1))) (kk (K := K) (F := fun K => gTup K 3 _) (P := PG _ _) (pg_tup rfl (pgs_cons (pg_name (i := 3) sc_all_of.nd rfl (Or.inl rfl)) (pgs_cons (pg_name (i := 4) sc_all_of.nd rfl (Or.inl rfl)) (pgs_cons (pg_name (i := 5) sc_all_of.nd rfl (Or.inl rfl)) pgs_nil)))))
      (pss_one (ps_asg (pe_cD D_one_behind (hr.less (by decide)) rfl (pa_cons (pe_ix (kk (K := K) (F := rIxL) (P := IxR _) ix_list) (pv 2) (pv 4) (fun _ _ => rfl)) (pa_cons (pv 5) pa_nil))) (pg_sub (pv 2) (pv 4) set_list))))
    (pss_one (ps_ret (pe_callTy (tupOfK (K := K)) (by rfl) B.tuple_ (by decide +kernel) (pa_cons (pv 2) pa_nil))))))), ?_⟩)
  · obtain ⟨b, k, bs, as, rfl, _⟩ := h; rfl
  · obtain ⟨b, k, bs, as, rfl, hb, hk, q⟩ := h
    refine ⟨_, rfl, _, rfl, b, k, bs, as, rfl, hb, hk, fun H1 S1 => ?_⟩
    have hb1 := hb.same S1
    have hk1 := hk.same S1
    have hn := hb.2
    refine ⟨sz, fun l hl => ⟨_, rfl, b, _, rfl, .inr (SqT.of ((same_new hl _) _ _ hb1.1)), l, _, _, rfl, rfl, upd_same, by omega, by rw [List.length_map]; omega, small (by rw [List.length_map]; show 1 * _ ≤ 1000; omega), fun L hL => ?_⟩⟩
    rw [List.length_map, show ((bs.length : Nat) : Int).toNat = bs.length from Int.toNat_natCast _, refs_new] at *
    have S2 := same_new hl (.lst [.ref B.LOOK_.choose])
    have S3 := same_new hL (.lst (List.replicate bs.length (V.ref B.LOOK_.choose)))
    have S13 := S2.trans S3
    have hL1 : H1 L = none := S2.free hL
    have hL3 : (upd (upd H1 l (.lst [.ref B.LOOK_.choose])) L (.lst (List.replicate bs.length (V.ref B.LOOK_.choose)))) L = some (.lst ((List.replicate bs.length (B.LOOK_.choose, look)).map fun x => V.ref x.1)) := by rw [upd_same, List.map_replicate]
    generalize upd (upd H1 l (.lst [.ref B.LOOK_.choose])) L (.lst (List.replicate bs.length (V.ref B.LOOK_.choose))) = H3 at S13 hL3
    refine ⟨_, rfl, k, rfl, ⟨_, SqT.of (S13 _ _ hk1.1)⟩, ?_⟩
    refine for_tup (K := K) (a := k) (xs := as.map fun x => .ref x.a) (fun i σ H4 => ∃ (ps : List (Addr × Dd)) (v3 v4 v5 : Option V), σ = [some (.ref b), some (.ref k), some (.ref L), v3, v4, v5] ∧ Same H1 H4 ∧ H4 L = some (.lst (ps.map fun x => V.ref x.1)) ∧ dsOf ps = (madeOf (as.take i) bs.length).2 ∧ RefsAt K H4 ps)
      ⟨_, none, none, none, rfl, S13, hL3, by unfold dsOf; rw [List.map_replicate] <;> rfl, fun x hx => by rw [(List.mem_replicate.mp hx).2]; exact .inr B.LOOK_.choose_spec.2⟩ (fun i σ H4 _ h => by obtain ⟨_, _, _, _, _, h2, _⟩ := h; exact SqT.of (h2 _ _ hk1.1)) ?_ ?_
    · rintro i y σ H4 hi ⟨ps, v3, v4, v5, rfl, S4, hL4, hds, hps⟩
      rw [List.getElem?_map] at hi
      obtain ⟨x, hx, rfl⟩ := Option.map_eq_some_iff.mp hi
      have l2 := (made_len (as := as.take i) (n := bs.length)).2
      rw [made_snoc hx]
      generalize madeOf (as.take i) bs.length = st at hds l2
      have hx1 := (hk1.2.2 x (List.mem_of_getElem? hx)).same S4
      have hlp : ps.length = bs.length := by rw [← l2, ← hds]; unfold dsOf; rw [List.length_map]
      obtain ⟨y, hy, hym, hyd, hyr⟩ := refs_get (ps := ps) (i := x.box) (by rw [hlp]; exact hx1.2.2.2.2)
      refine ⟨x.a, _, rfl, SqT.of hx1.1, rfl, _, _, rfl, _, _, rfl, _, _, rfl, rfl, ?_⟩
      refine ⟨_, rfl, _, rfl, L, _, _, _, rfl, rfl, SqL.of hL4, at_of (j := x.box) rfl hyr, _, rfl, y.1, x.da, y.2, x.d, rfl, (hps y hym).sq, hx1.2.1.1.sq, fun c H5 S5 _ hc => ?_⟩
      have hL5 := S5 _ _ hL4
      refine ⟨_, rfl, _, rfl, L, _, _, _, rfl, rfl, hL5, ixn (by rw [List.length_map, hlp]; exact hx1.2.2.2.2), ?_⟩
      refine ⟨ps.set x.box (c, beh y.2 x.d), _, _, _, rfl, ?_, ?_, ?_, refs_set hL5 (hps.same S5) hc⟩
      · exact fun a o ha => by rw [upd_ne (ne_of_none ha hL1)]; exact S5 _ _ (S4 _ _ ha)
      · rw [upd_same, List.map_set] <;> rfl
      · unfold dsOf
        rw [List.map_set]
        show (dsOf ps).set x.box (beh y.2 x.d) = st.2.set x.box (beh (st.2.getD x.box look) x.d)
        rw [hyd, hds]
    · rintro σ H4 ⟨ps, v3, v4, v5, rfl, S4, hL4, hds, hps⟩
      rw [List.length_map, List.take_length] at hds
      refine ⟨_, rfl, L, _, rfl, .inl ⟨SqL.of hL4, fun T hT => ?_⟩⟩
      have S5 := same_new hT (.tup (ps.map fun x => V.ref x.1))
      exact q T ps _ (S1.trans (S4.trans S5)) upd_same hds (hps.same S5)
def spAhead (K : PySem.W.Frag) : Sp := fun vs H Q _ => ∃ (b k : Addr) (bs : List Int) (as : List Ak), vs = [.ref b, .ref k] ∧ BoardAt H b bs ∧ AsksAt K H k as bs.length ∧
  ∀ (T : Addr) (ps : List (Addr × Dd)) (H' : Hp), Same H H' → H' T = some (.tup (ps.map fun x => V.ref x.1)) → dsOf ps = (madeOf as bs.length).1 → RefsAt K H' ps → Q (.ref T) H'
theorem k_ahead_of (D : Df K mg "ahead_of" s_ahead_of ["board", "asks"]) (D_want_asks : Dn P w K mg base 6 "want_asks" ["board", "asks"] (spWantAsks K)) (D_one_behind : Dn P w K mg base 2 "one_behind" ["one", "other"] (spBehind K)) : Dn P w K mg base 7 "ahead_of" ["board", "asks"] (spAhead K) := by
  refine D.ok fun f fd F => okG0 F sc_ahead_of (fun vs H Q E h => ?_) (fun cdv A outer s H vs Q E hr h => ⟨_, (pss_cons (ps_expr (pe_cD D_want_asks (hr.less (by decide)) rfl (pa_cons (pv 0) (pa_cons (pv 1) pa_nil))))
    (pss_cons (ps_set (i := 2) sc_ahead_of.nd rfl (Or.inl rfl) (pe_op op_rep (pe_lst (pa_cons (pe_glob (v := .ref B.LOOK_.choose) (by rfl) B.LOOK_.choose_spec.1 rfl) pa_nil)) (pe_callB (lenK (K := K)) (by rfl) B.len_ (by decide +kernel) (pa_cons (pv 0) pa_nil))))
    (pss_cons (ps_set (i := 3) sc_ahead_of.nd rfl (Or.inl rfl) (pe_lst pa_nil))
    (pss_cons (ps_for PassesOwn.never rfl (kk (K := K) (F := fun K => iTup K _) (P := PI _ _ _) (pi_tup (pv 1))) (kk (K := K) (F := fun K => gTup K 3 _) (P := PG _ _) (pg_tup rfl (pgs_cons (pg_name (i := 4) sc_ahead_of.nd rfl (Or.inl rfl)) (pgs_cons (pg_name (i := 5) sc_ahead_of.nd rfl (Or.inl rfl)) (pgs_cons (pg_name (i := 6) sc_ahead_of.nd rfl (Or.inl rfl)) pgs_nil)))))
      (pss_cons (ps_expr (kk (K := K) (F := fun K => tBM K "list" _ _ _) (P := PE _ _) (pe_bm PySem.F.plainAttrs_list PySem.F.slot_list_append PySem.F.type_list_append mt_append (pv 3) (pa_cons (pe_ix (kk (K := K) (F := rIxL) (P := IxR _) ix_list) (pv 2) (pv 5) (fun _ _ => rfl)) pa_nil))))
      (pss_one (ps_asg (pe_cD D_one_behind (hr.less (by decide)) rfl (pa_cons (pe_ix (kk (K := K) (F := rIxL) (P := IxR _) ix_list) (pv 2) (pv 5) (fun _ _ => rfl)) (pa_cons (pv 6) pa_nil))) (pg_sub (pv 2) (pv 5) set_list)))))
    (pss_one (ps_ret (pe_callTy (tupOfK (K := K)) (by rfl) B.tuple_ (by decide +kernel) (pa_cons (pv 3) pa_nil)))))))), ?_⟩)
  · obtain ⟨b, k, bs, as, rfl, _⟩ := h; rfl
  · obtain ⟨b, k, bs, as, rfl, hb, hk, q⟩ := h
    refine ⟨_, rfl, _, rfl, b, k, bs, as, rfl, hb, hk, fun H1 S1 => ?_⟩
    have hb1 := hb.same S1
    have hk1 := hk.same S1
    have hn := hb.2
    refine ⟨sz, fun l hl => ⟨_, rfl, b, _, rfl, .inr (SqT.of ((same_new hl _) _ _ hb1.1)), l, _, _, rfl, rfl, upd_same, by omega, by rw [List.length_map]; omega, small (by rw [List.length_map]; show 1 * _ ≤ 1000; omega), fun L hL => ?_⟩⟩
    rw [List.length_map, show ((bs.length : Nat) : Int).toNat = bs.length from Int.toNat_natCast _, refs_new] at *
    have S2 := same_new hl (.lst [.ref B.LOOK_.choose])
    have S3 := same_new hL (.lst (List.replicate bs.length (V.ref B.LOOK_.choose)))
    have S13 := S2.trans S3
    have hL1 : H1 L = none := S2.free hL
    have hL3 : (upd (upd H1 l (.lst [.ref B.LOOK_.choose])) L (.lst (List.replicate bs.length (V.ref B.LOOK_.choose)))) L = some (.lst ((List.replicate bs.length (B.LOOK_.choose, look)).map fun x => V.ref x.1)) := by rw [upd_same, List.map_replicate]
    generalize upd (upd H1 l (.lst [.ref B.LOOK_.choose])) L (.lst (List.replicate bs.length (V.ref B.LOOK_.choose))) = H3 at S13 hL3
    refine ⟨sz, fun M hM => ?_⟩
    have hM1 : H1 M = none := S13.free hM
    have nLM : L ≠ M := ne_of_none hL3 hM
    have S14 := S13.trans (same_new hM (.lst []))
    refine ⟨_, rfl, k, rfl, ⟨_, SqT.of (S14 _ _ hk1.1)⟩, ?_⟩
    refine for_tup (K := K) (a := k) (xs := as.map fun x => .ref x.a) (fun i σ H4 => ∃ (v3 v4 v5 : Option V), σ = [some (.ref b), some (.ref k), some (.ref L), some (.ref M), v3, v4, v5] ∧ Same H1 H4 ∧ MadeAt K H4 L M (madeOf (as.take i) bs.length))
      ⟨none, none, none, rfl, S14, MadeAt.new (by rw [upd_ne nLM]; exact hL3) upd_same fun x hx => by rw [(List.mem_replicate.mp hx).2]; exact .inr B.LOOK_.choose_spec.2⟩ (fun i σ H4 _ h => by obtain ⟨_, _, _, _, h2, _⟩ := h; exact SqT.of (h2 _ _ hk1.1)) ?_ ?_
    · rintro i y σ H4 hi ⟨v3, v4, v5, rfl, S4, hm⟩
      rw [List.getElem?_map] at hi
      obtain ⟨x, hx, rfl⟩ := Option.map_eq_some_iff.mp hi
      have hx1 := (hk1.2.2 x (List.mem_of_getElem? hx)).same S4
      have hil : i < as.length := (List.getElem?_eq_some_iff.mp hx).1
      have h40 := hk.2.1
      rw [made_snoc hx]
      obtain ⟨l1, l2⟩ := made_len (as := as.take i) (n := bs.length)
      have l1' : (madeOf (as.take i) bs.length).1.length ≤ 40 := by rw [l1, List.length_take]; omega
      generalize madeOf (as.take i) bs.length = st at hm l2 l1'
      obtain ⟨y, ey, hy, hyM, fin⟩ := hm.turn (x := x) (by rw [l2]; exact hx1.2.2.2.2)
      refine ⟨x.a, _, rfl, SqT.of hx1.1, rfl, _, _, rfl, _, _, rfl, _, _, rfl, rfl, ?_⟩
      obtain ⟨ps1, ps2, hM4, hL4, e1, e2, r1, r2⟩ := id hm
      refine ⟨_, rfl, .inl ⟨rfl, _, SqL.of hM4⟩, _, rfl, _, rfl, L, _, _, _, rfl, rfl, SqL.of hL4, at_of (j := x.box) rfl (ey _ hL4), M, _, _, rfl, rfl, hM4, small1000 (by rw [List.length_map, dsOf_len e1]; omega), ?_⟩
      have b1 : But M H4 (upd H4 M (.lst (ps1.map (fun x => V.ref x.1) ++ [V.ref y.1]))) := But.upd
      have hL5 := b1 _ _ nLM hL4
      refine ⟨_, rfl, _, rfl, L, _, _, _, rfl, rfl, SqL.of hL5, at_of (j := x.box) rfl (ey _ hL4), _, rfl, y.1, x.da, y.2, x.d, rfl, but_tup b1 hM4 hy, but_tup b1 hM4 (hx1.2.1.1.sq), fun c H5 S5 _ hc => ?_⟩
      have hL6 := S5 _ _ hL5
      refine ⟨_, rfl, _, rfl, L, _, _, _, rfl, rfl, hL6, ixn (by rw [List.length_map, dsOf_len e2, l2]; exact hx1.2.2.2.2), ?_⟩
      refine ⟨_, _, _, rfl, fun a o ha => ?_, ?_⟩
      · rw [upd_ne (ne_of_none ha hL1)]
        exact S5 _ _ (by rw [upd_ne (ne_of_none ha hM1)]; exact S4 _ _ ha)
      · exact fin ps1 ps2 _ c nLM e1 e2 r1 r2 hM4 S5 hL6 hc
    · rintro σ H4 ⟨v3, v4, v5, rfl, S4, hm⟩
      rw [List.length_map, List.take_length] at hm
      obtain ⟨ps1, ps2, hM4, hL4, e1, e2, r1, r2⟩ := hm
      refine ⟨_, rfl, M, _, rfl, .inl ⟨SqL.of hM4, fun T hT => ?_⟩⟩
      have S5 := same_new hT (.tup (ps1.map fun x => V.ref x.1))
      exact q T ps1 _ (S1.trans (S4.trans S5)) upd_same e1 (r1.same S5)
def spIsTree : Sp := fun vs H Q _ => ∃ (v : V) (t : Tr) (m : Nat), vs = [v, .int m] ∧ TrAt H v t ∧ IsRow t 0 ∧ t.cnt = m ∧ m ≤ 40 ∧ ∀ H', Same H H' → Q (.bl true) H'
theorem k_is_tree (D : Df K mg "is_tree" s_is_tree ["thing", "many"]) (D_want_many : Dn P w K mg base 4 "want_many" ["many"] spWantMany) (D_is_whole : Dn P w K mg base 1 "is_whole" ["thing"] spIsWhole) : Dn P w K mg base 5 "is_tree" ["thing", "many"] spIsTree := by
  refine D.ok fun f fd F => okG0 F sc_is_tree (fun vs H Q E h => ?_) (fun cdv A outer s H vs Q E hr h => ⟨_, (pss_cons (ps_expr (pe_cD D_want_many (hr.less (by decide)) rfl (pa_cons (pv 1) pa_nil)))
    (pss_cons (ps_set (i := 2) sc_is_tree.nd rfl (Or.inl rfl) (pe_lst (pa_cons (pv 0) pa_nil)))
    (pss_cons (ps_set (i := 3) sc_is_tree.nd rfl (Or.inl rfl) pe_int)
    (pss_cons (ps_while PassesOwn.never (pt_cmpR (kk (K := K) (F := rNeD) (P := OpR _ _) (op_neD hr.units)) (pv 2) (pe_lst pa_nil) (nomark _))
      (pss_cons (ps_set (i := 4) sc_is_tree.nd rfl (Or.inl rfl) (kk (K := K) (F := fun K => tBM0 K "list" _ _) (P := PE _ _) (pe_bm0 PySem.F.plainAttrs_list PySem.F.slot_list_pop PySem.F.type_list_pop mt_pop (pv 2))))
      (pss_one (ps_if (pt_val (pe_callB (kk (K := K) (F := rIsi) (P := CallR _ _) call_isi) (by rfl) B.isinstance_ (by decide +kernel) (pa_cons (pv 4) (pa_cons (pe_bltn (v := .ty "tuple") (u := .type "tuple") (by rfl) B.tuple_ (by decide +kernel) rfl) pa_nil))))
       (pss_cons (ps_if (pt_cmpR op_ne (pe_callB (lenK (K := K)) (by rfl) B.len_ (by decide +kernel) (pa_cons (pv 4) pa_nil)) pe_int (nomark _))
         (pss_one (ps_ret pe_bl))
         pss_nil)
       (pss_one (ps_expr (kk (K := K) (F := fun K => tBM K "list" _ _ _) (P := PE _ _) (pe_bm PySem.F.plainAttrs_list PySem.F.slot_list_extend PySem.F.type_list_extend mt_extend (pv 2) (pa_cons (pe_lst (pa_cons (pe_ix (kk (K := K) (F := rIxT) (P := IxR _) ix_tup) (pv 4) pe_int (fun _ _ => rfl)) (pa_cons (pe_ix (kk (K := K) (F := rIxT) (P := IxR _) ix_tup) (pv 4) pe_int (fun _ _ => rfl)) pa_nil))) pa_nil))))))
       (pss_one (ps_if (PW.pt (pw_or (pt_not (pt_val (pe_cD D_is_whole (hr.less (by decide)) rfl (pa_cons (pv 4) pa_nil)))) (pw_or1 (pt_cmpR op_ne (pv 4) (pv 3) (nomark _)))))
        (pss_one (ps_ret pe_bl))
        (pss_one (ps_set (i := 3) sc_is_tree.nd rfl (Or.inl rfl) (pe_op op_add (pv 3) pe_int)))))))))
    (pss_one (ps_ret (pe_cmpR op_eq (pv 3) (pv 1) (nomark _)))))))), ?_⟩)
  · obtain ⟨v, t, m, rfl, _⟩ := h; rfl
  · obtain ⟨v, t, m, rfl, ht, hr, hc, h40, q⟩ := h
    have := t.cnt_pos
    refine ⟨_, rfl, m, rfl, by omega, by omega, _, rfl, sz, fun L hL => ?_⟩
    refine ⟨fun k σ H2 => ∃ (ts : List (V × Tr)) (c : Nat) (v4 : Option V), σ = [some v, some (.int m), some (.ref L), some (.int c), v4] ∧ Same H H2 ∧ H2 L = some (.lst (ts.reverse.map fun x => x.1)) ∧ (∀ x ∈ ts, TrAt H x.1 x.2 ∧ x.2.h ≤ 40 ∧ x.2.big ≤ 100) ∧ Rows (ts.map fun x => x.2) c m ∧ k = szs (ts.map fun x => x.2),
      ⟨_, [(v, t)], 0, none, rfl, same_new hL _, upd_same, fun x hx => ?_, ⟨hr, by rw [hc]; exact Nat.zero_add _⟩, rfl⟩, ?_⟩
    · cases List.mem_singleton.mp hx
      exact ⟨ht, Nat.le_trans t.h_cnt (by omega), Nat.le_trans hr.big (by omega)⟩
    rintro k σ H2 ⟨ts, c, v4, rfl, S2, hL2, hts, hrows, rfl⟩
    have hlen := rows_len hrows
    rw [List.length_map] at hlen
    refine ⟨_, rfl, sz, fun e he => ⟨.list (ts.reverse.map fun x => x.2.d), .list [], .lst (SqL.of ((same_new he _) _ _ hL2)) (dps fun x hx => ((hts x (List.mem_reverse.mp hx)).1.same (S2.trans (same_new he _))).dp), .lst (SqL.of upd_same) .nil, ?_, rfl, _, rfl, ?_⟩⟩
    · unfold SeqAt.shaped
      have h1 : PyData.depthAll (ts.reverse.map fun x => x.2.d) ≤ 50 := by
        exact depths fun x hx => (hts x (List.mem_reverse.mp hx)).2
      have h2 : PyData.canLayAll0 (ts.reverse.map fun x => x.2.d) = true := lays
      simp only [PyData.canLay0, h2, PyData.depth, Bool.true_and]
      exact decide_eq_true (by omega)
    rw [eqv_nil]
    cases ts with
    | nil =>
      cases (show c = m from hrows)
      refine iteF ⟨_, rfl, _, rfl, rfl, ?_⟩
      rw [dec_self]
      exact q _ (S2.trans (same_new he _))
    | cons x r =>
      obtain ⟨hx, hr2⟩ := hrows
      have hne : ((r.reverse ++ [x]).map fun x => x.2.d).isEmpty = false := by rw [List.map_append]; cases (r.reverse.map fun x : V × Tr => x.2.d) <;> rfl
      rw [List.reverse_cons] at hL2 ⊢
      rw [hne]
      refine ifT rfl ⟨fun σ' H' => ∃ m', m' < szs ((x :: r).map fun x => x.2) ∧ ∃ (ts : List (V × Tr)) (c : Nat) (v4 : Option V), σ' = [some v, some (.int m), some (.ref L), some (.int c), v4] ∧ Same H H' ∧ H' L = some (.lst (ts.reverse.map fun x => x.1)) ∧ (∀ x ∈ ts, TrAt H x.1 x.2 ∧ x.2.h ≤ 40 ∧ x.2.big ≤ 100) ∧ Rows (ts.map fun x => x.2) c m ∧ m' = szs (ts.map fun x => x.2), fun σ' H' h => h, ?_⟩
      have S3 := S2.trans (same_new he (.lst []))
      have nLe : L ≠ e := ne_of_none hL2 he
      refine ⟨_, rfl, .inl ⟨rfl, _, SqL.of (by rw [upd_ne nLe]; exact hL2)⟩, L, _, x.1, rfl, rfl, (by rw [upd_ne nLe]; exact hL2), by simp, ?_⟩
      have hdl : (List.map (fun x : V × Tr => x.1) (r.reverse ++ [x])).dropLast = r.reverse.map fun x => x.1 := by rw [List.map_append]; exact List.dropLast_concat
      rw [hdl]
      have hr0 : ∀ y ∈ r, TrAt H y.1 y.2 ∧ y.2.h ≤ 40 ∧ y.2.big ≤ 100 := fun y hy => hts y (List.mem_cons_of_mem _ hy)
      obtain ⟨hx0, hh, hb⟩ := hts x List.mem_cons_self
      obtain ⟨xv, xt⟩ := x
      generalize eH : upd (upd H2 e (.lst [])) L (.lst (r.reverse.map fun x => x.1)) = H3
      have S4 : Same H H3 := by rw [← eH]; exact fun a o ha => by rw [upd_ne (ne_of_none ha hL)]; exact S3 _ _ ha
      have hL3 : H3 L = some (.lst (r.reverse.map fun x => x.1)) := by rw [← eH]; exact upd_same
      cases xt with
      | leaf n =>
        cases (show xv = V.int n from hx0)
        have e : n = c := hx
        subst e
        refine ⟨_, rfl, _, _, _, _, _, rfl, .ty _, .base (.int _), kit_ty (b := "tuple") (r := false) (by decide +kernel), _, rfl, iteF ?_⟩
        refine ⟨_, rfl, _, rfl, _, rfl, iteF ⟨_, rfl, _, rfl, rfl, _, rfl, ifF (dec_ne rfl) ⟨_, rfl, _, _, rfl, rfl, ?_⟩⟩⟩
        exact ⟨_, (by show szs (r.map fun x => x.2) < 1 + szs (r.map fun x => x.2); omega), r, n + 1, _, rfl, S4, hL3, hr0, hr2, rfl⟩
      | node l rr =>
        obtain ⟨a, x1, y1, hxv, ha, hx1, hy1⟩ := hx0
        cases (show xv = V.ref a from hxv)
        have hh' : max l.h rr.h + 1 ≤ 40 := hh
        have hb' : max l.big rr.big ≤ 100 := hb
        refine ⟨_, rfl, _, _, _, _, _, rfl, .ty _, .base (.tup (S4 _ _ ha)), kit_ty (b := "tuple") (r := true) (by decide +kernel), _, rfl, iteT ?_⟩
        refine ⟨_, rfl, a, _, rfl, .inr (SqT.of (S4 _ _ ha)), rfl, _, rfl, iteF ?_⟩
        refine ⟨_, rfl, .inl ⟨rfl, _, SqL.of hL3⟩, _, rfl, a, _, _, _, rfl, rfl, SqT.of (S4 _ _ ha), at_of (j := 1) rfl rfl, _, rfl, a, _, _, _, rfl, rfl, SqT.of (S4 _ _ ha), at_of (j := 0) rfl rfl, sz, fun b hb => ?_⟩
        have nLb : L ≠ b := ne_of_none hL3 hb
        refine ⟨L, b, _, _, rfl, rfl, by rw [upd_ne nLb]; exact hL3, upd_same, small (by rw [List.length_map, List.length_reverse]; have : r.length + 1 + c ≤ m := hlen; show r.length + 2 ≤ 1000; omega), ?_⟩
        refine ⟨_, ?_, (x1, l) :: (y1, rr) :: r, c, _, rfl, ?_, ?_, ?_, ?_, rfl⟩
        · show l.sz + (rr.sz + szs _) < (l.sz + rr.sz + 1) + szs _
          omega
        · exact fun a o h => by rw [upd_ne (ne_of_none h hL)]; exact (S4.trans (same_new hb _)) _ _ h
        · rw [upd_same, List.reverse_cons, List.reverse_cons, List.append_assoc, List.map_append] <;> rfl
        · intro z hz
          rcases List.mem_cons.mp hz with rfl | hz
          · exact ⟨hx1, by show l.h ≤ 40; omega, by show l.big ≤ 100; omega⟩
          rcases List.mem_cons.mp hz with rfl | hz
          · exact ⟨hy1, by show rr.h ≤ 40; omega, by show rr.big ≤ 100; omega⟩
          · exact hr0 z hz
        · obtain ⟨g1, g2⟩ := hx
          exact ⟨g1, g2, by show Rows _ (c + l.cnt + rr.cnt) m; rw [Nat.add_assoc]; exact hr2⟩
def spWantTree : Sp := fun vs H Q _ => ∃ (v : V) (t : Tr) (m : Nat), vs = [v, .int m] ∧ TrAt H v t ∧ IsRow t 0 ∧ t.cnt = m ∧ m ≤ 40 ∧ ∀ H', Same H H' → Q .non H'
theorem k_want_tree (D : Df K mg "want_tree" s_want_tree ["tree", "many"]) (D_is_tree : Dn P w K mg base 5 "is_tree" ["thing", "many"] spIsTree) : Dn P w K mg base 6 "want_tree" ["tree", "many"] spWantTree := by
  refine D.ok fun f fd F => okG0 F sc_want_tree (fun vs H Q E h => ?_) (fun cdv A outer s H vs Q E hr h => ⟨_, (pss_one (ps_if (pt_not (pt_val (pe_cD D_is_tree (hr.less (by decide)) rfl (pa_cons (pv 0) (pa_cons (pv 1) pa_nil)))))
     (pss_one ps_never)
     pss_nil)), ?_⟩)
  · obtain ⟨v, t, m, rfl, _⟩ := h; rfl
  · obtain ⟨v, t, m, rfl, h1, h2, h3, h4, q⟩ := h
    exact ⟨_, rfl, _, rfl, v, t, m, rfl, h1, h2, h3, h4, fun H' S => ⟨_, rfl, iteF (q _ S)⟩⟩
def spWantDeeds (K : PySem.W.Frag) : Sp := fun vs H Q _ => ∃ (k : Addr) (ps : List (Addr × Dd)), vs = [.ref k] ∧ DsAt K H k ps ∧ ∀ H', Same H H' → Q .non H'
theorem k_want_deeds (D : Df K mg "want_deeds" s_want_deeds ["deeds"]) (D_is_deed : Dn P w K mg base 3 "is_deed" ["thing"] (spIsDeed K)) : Dn P w K mg base 4 "want_deeds" ["deeds"] (spWantDeeds K) := by
  refine D.ok fun f fd F => okG0 F sc_want_deeds (fun vs H Q E h => ?_) (fun cdv A outer s H vs Q E hr h => ⟨_, (pss_one (ps_if (PW.pt (pw_or (pt_not (pt_val (pe_callB (kk (K := K) (F := rIsi) (P := CallR _ _) call_isi) (by rfl) B.isinstance_ (by decide +kernel) (pa_cons (pv 0) (pa_cons (pe_bltn (v := .ty "tuple") (u := .type "tuple") (by rfl) B.tuple_ (by decide +kernel) rfl) pa_nil))))) (pw_or (pt_not (pt_chain op_le op_le pe_int (pe_callB (lenK (K := K)) (by rfl) B.len_ (by decide +kernel) (pa_cons (pv 0) pa_nil)) (pe_glob (v := .int (40)) (u := .int (40) B.MOST_DEEDS_.choose) (by rfl) B.MOST_DEEDS_.choose_spec ⟨_, rfl⟩))) (pw_or1 (pt_not (pt_val (pe_callB (kk (K := K) (F := rAll) (P := CallR _ _) (cr_all rfl)) (by rfl) B.all_ (by decide +kernel) (pa_cons (pe_lc (own := [("one", 1)]) (g := gName 1) (tt := tYes) rfl sc_want_deeds.nd (kk (K := K) (F := fun K => iTup K _) (P := PI _ _ _) (pi_tup (pv 0))) (blkOk_by (own := [("one", 1)]) (N := ["deeds", "one"]) (sc := defScope s_want_deeds) (by decide +kernel)) (fun _ _ _ _ _ => (pg_name (i := 1) sc_want_deeds.nd rfl (Or.inl rfl))) (fun _ _ _ _ _ => pts_nil) (fun _ _ _ _ _ => (pe_cD D_is_deed (hr.less (by decide)) rfl (pa_cons (pv 1) pa_nil)))) pa_nil))))))))
     (pss_one ps_never)
     pss_nil)), ?_⟩)
  · obtain ⟨k, ps, rfl, _⟩ := h; rfl
  · obtain ⟨k, ps, rfl, hk, q⟩ := h
    obtain ⟨h1, h2, h3, h4⟩ := hk
    refine ⟨_, rfl, _, _, _, _, _, rfl, .ty _, .base (.tup h1), kit_ty (b := "tuple") (r := true) (by decide +kernel), _, rfl, iteF ?_⟩
    refine ⟨_, rfl, k, _, rfl, .inr (SqT.of h1), ?_⟩
    refine ⟨_, _, rfl, rfl, _, rfl, ifT (decide_eq_true (by rw [List.length_map]; omega)) ⟨_, _, rfl, rfl, _, rfl, ifF (by rw [List.length_map, decide_eq_true (by omega)] <;> rfl) ?_⟩⟩
    refine ⟨_, rfl, k, rfl, ⟨_, SqT.of h1⟩, fun D hD => ?_⟩
    refine lc_tup (K := K) (a := k) (xs := ps.map fun x => .ref x.1) (fun i H2 => Same H H2 ∧ H2 D = some (.lst ((List.replicate i true).map V.bl))) ⟨same_new hD _, upd_same⟩ (fun i H2 _ h => SqT.of (h.1 _ _ h1)) ?_ ?_
    · rintro i y H2 hi ⟨S2, hD2⟩
      rw [List.getElem?_map] at hi
      obtain ⟨x, hx, rfl⟩ := Option.map_eq_some_iff.mp hi
      have hi2 : i < ps.length := (List.getElem?_eq_some_iff.mp hx).1
      refine ⟨rfl, ?_⟩
      exact ⟨_, rfl, x.1, x.2, rfl, ((h4 x (List.mem_of_getElem? hx)).same S2).arg, _, hD2, by rw [rep_len]; exact small1000 (by omega), but_same hD S2 But.upd, by rw [upd_same, rep_snoc]⟩
    · rintro H2 ⟨S2, hD2⟩
      refine ⟨D, _, rfl, SqL.of hD2, _, rfl, ifF (by rw [rep_all] <;> rfl) (q _ S2)⟩
def spFolded (K : PySem.W.Frag) (n : Nat) : Sp := fun vs H Q _ => ∃ (k : Addr) (ps : List (Addr × Dd)) (v : V) (t : Tr) (f : Nat), vs = [.ref k, v] ∧ DsAt K H k ps ∧ TrAt H v t ∧ IsRow t f ∧ f + t.cnt ≤ ps.length ∧ t.h ≤ n ∧ ∀ a H', Same H H' → TupAt K H' a (FT (dsOf ps) t).vs → Q (.ref a) H'
theorem folded_of_z (vs : List V) (H : Hp) (Q : VK) (E : XK) : ¬ spFolded K 0 vs H Q E := by
  rintro ⟨k, ps, v, t, f, _, _, _, _, _, h2, _⟩
  have := t.h_pos
  omega
theorem k_folded_of_rec (D : Df K mg "folded_of" s_folded_of ["deeds", "tree"]) (D_one_behind : Dn P w K mg base 2 "one_behind" ["one", "other"] (spBehind K)) : ∀ n : Nat, Dn P w K mg base (2 + n) "folded_of" ["deeds", "tree"] ((spFolded K) n) := by
  intro n
  induction n with
  | zero => exact D.ok fun f fd F => ⟨fun vs H Q E h => (folded_of_z B vs H Q E h).elim, fun _ _ _ _ h => (folded_of_z B _ _ _ _ h).elim⟩
  | succ n D_folded_of =>
    refine D.ok fun f fd F => okG0 (k := 2 + n) F sc_folded_of (fun vs H Q E h => ?_) (fun cdv A outer s H vs Q E hr h => ⟨_, (pss_cons (ps_if (pt_not (pt_val (pe_callB (kk (K := K) (F := rIsi) (P := CallR _ _) call_isi) (by rfl) B.isinstance_ (by decide +kernel) (pa_cons (pv 1) (pa_cons (pe_bltn (v := .ty "tuple") (u := .type "tuple") (by rfl) B.tuple_ (by decide +kernel) rfl) pa_nil)))))
      (pss_one (ps_ret (pe_ix (kk (K := K) (F := rIxT) (P := IxR _) ix_tup) (pv 0) (pv 1) (fun _ _ => rfl))))
      pss_nil)
    (pss_one (ps_ret (pe_cD D_one_behind (hr.less (by omega)) rfl (pa_cons (pe_cD D_folded_of (hr.less (by omega)) rfl (pa_cons (pv 0) (pa_cons (pe_ix (kk (K := K) (F := rIxT) (P := IxR _) ix_tup) (pv 1) pe_int (fun _ _ => rfl)) pa_nil))) (pa_cons (pe_cD D_folded_of (hr.less (by omega)) rfl (pa_cons (pv 0) (pa_cons (pe_ix (kk (K := K) (F := rIxT) (P := IxR _) ix_tup) (pv 1) pe_int (fun _ _ => rfl)) pa_nil))) pa_nil)))))), ?_⟩)
    · obtain ⟨k, ps, v, t, f, rfl, _⟩ := h; rfl
    · obtain ⟨k, ps, v, t, f, rfl, hk, ht, hr, hl, hn, q⟩ := h
      cases t with
      | leaf m =>
        cases (show v = V.int m from ht)
        have e : m = f := hr
        subst e
        have hl' : m < ps.length := hl
        refine ⟨_, rfl, _, _, _, _, _, rfl, .ty _, .base (.int _), kit_ty (b := "tuple") (r := false) (by decide +kernel), _, rfl, iteT ?_⟩
        refine ⟨_, rfl, _, rfl, k, _, _, _, rfl, rfl, SqT.of hk.1, at_of (j := m) rfl (by rw [List.getElem?_map, List.getElem?_eq_getElem hl'] <;> rfl), ?_⟩
        refine q _ _ (Same.refl _) ?_
        show TupAt K H ps[m].1 ((dsOf ps).getD m look).vs
        rw [show (dsOf ps).getD m look = ps[m].2 by unfold dsOf; rw [List.getD_eq_getElem?_getD, List.getElem?_map, List.getElem?_eq_getElem hl'] <;> rfl]
        exact (hk.2.2.2 ps[m] (List.getElem_mem hl')).1
      | node l r =>
        obtain ⟨a, x, y, hv, ha, hx, hy⟩ := ht
        cases (show v = V.ref a from hv)
        obtain ⟨i1, i2⟩ := hr
        have hn' : max l.h r.h + 1 ≤ n + 1 := hn
        have hl' : f + (l.cnt + r.cnt) ≤ ps.length := hl
        refine ⟨_, rfl, _, _, _, _, _, rfl, .ty _, .base (.tup ha), kit_ty (b := "tuple") (r := true) (by decide +kernel), _, rfl, iteF ?_⟩
        refine ⟨_, rfl, _, rfl, a, _, _, _, rfl, rfl, SqT.of ha, at_of (j := 0) rfl rfl, k, ps, x, l, f, rfl, hk, hx, i1, by omega, by omega, fun b1 H1 S1 hb1 => ?_⟩
        refine ⟨_, rfl, _, rfl, a, _, _, _, rfl, rfl, SqT.of (S1 _ _ ha), at_of (j := 1) rfl rfl, k, ps, y, r, f + l.cnt, rfl, hk.same S1, hy.same S1, i2, by omega, by omega, fun b2 H2 S2 hb2 => ?_⟩
        refine ⟨b1, b2, _, _, rfl, (hb1.same S2).sq, hb2.sq, fun c H3 S3 _ hc => q _ _ (S1.trans (S2.trans S3)) (.inl hc)⟩
theorem k_folded_of (D : Df K mg "folded_of" s_folded_of ["deeds", "tree"]) (D_one_behind : Dn P w K mg base 2 "one_behind" ["one", "other"] (spBehind K)) : Dn P w K mg base 42 "folded_of" ["deeds", "tree"] ((spFolded K) 40) := k_folded_of_rec B D D_one_behind 40
def spFold (K : PySem.W.Frag) : Sp := fun vs H Q _ => ∃ (k : Addr) (ps : List (Addr × Dd)) (v : V) (t : Tr), vs = [.ref k, v] ∧ DsAt K H k ps ∧ TrAt H v t ∧ IsRow t 0 ∧ t.cnt = ps.length ∧ ∀ a H', Same H H' → TupAt K H' a (behs (dsOf ps)).vs → Q (.ref a) H'
theorem k_folded (D : Df K mg "folded" s_folded ["deeds", "tree"]) (D_want_deeds : Dn P w K mg base 4 "want_deeds" ["deeds"] (spWantDeeds K)) (D_want_tree : Dn P w K mg base 6 "want_tree" ["tree", "many"] spWantTree) (D_folded_of : Dn P w K mg base 42 "folded_of" ["deeds", "tree"] ((spFolded K) 40)) : Dn P w K mg base 45 "folded" ["deeds", "tree"] (spFold K) := by
  refine D.ok fun f fd F => okG0 F sc_folded (fun vs H Q E h => ?_) (fun cdv A outer s H vs Q E hr h => ⟨_, (pss_cons (ps_expr (pe_cD D_want_deeds (hr.less (by decide)) rfl (pa_cons (pv 0) pa_nil)))
    (pss_cons (ps_expr (pe_cD D_want_tree (hr.less (by decide)) rfl (pa_cons (pv 1) (pa_cons (pe_callB (lenK (K := K)) (by rfl) B.len_ (by decide +kernel) (pa_cons (pv 0) pa_nil)) pa_nil))))
    (pss_one (ps_ret (pe_cD D_folded_of (hr.less (by decide)) rfl (pa_cons (pv 0) (pa_cons (pv 1) pa_nil))))))), ?_⟩)
  · obtain ⟨k, ps, v, t, rfl, _⟩ := h; rfl
  · obtain ⟨k, ps, v, t, rfl, hk, ht, hr, hc, q⟩ := h
    have hk0 := hk.2
    refine ⟨_, rfl, k, ps, rfl, hk, fun H1 S1 => ?_⟩
    refine ⟨_, rfl, _, rfl, k, _, rfl, .inr (SqT.of (hk.same S1).1), v, t, ps.length, by rw [List.length_map] <;> rfl, ht.same S1, hr, hc, by omega, fun H2 S2 => ?_⟩
    have S12 := S1.trans S2
    refine ⟨_, rfl, _, rfl, k, ps, v, t, 0, rfl, hk.same S12, ht.same S12, hr, by omega, Nat.le_trans t.h_cnt (by omega), fun a H3 S3 ha => ?_⟩
    rw [FT_all hk.oks hr (by rw [hc]; exact (List.length_map _).symm)] at ha
    exact q a _ (S12.trans S3) ha
def spShared (K : PySem.W.Frag) (n : Nat) : Sp := fun vs H Q _ => ∃ (k : Addr) (ps : List (Addr × Dd)) (v : V) (t : Tr) (f : Nat) (x : Int), vs = [.ref k, v, .int x] ∧ DsAt K H k ps ∧ TrAt H v t ∧ IsRow t f ∧ f + t.cnt ≤ ps.length ∧ t.h ≤ n ∧ ∀ r l a H', Same H H' → H' r = some (.tup [.ref l, .ref a]) → H' l = some (.lst ((ST (dsOf ps) t x).map V.int)) → TupAt K H' a (FT (dsOf ps) t).vs → Q (.ref r) H'
theorem shared_of_z (vs : List V) (H : Hp) (Q : VK) (E : XK) : ¬ spShared K 0 vs H Q E := by
  rintro ⟨k, ps, v, t, f, x, _, _, _, _, _, h2, _⟩
  have := t.h_pos
  omega
theorem k_shared_of_rec (D : Df K mg "shared_of" s_shared_of ["deeds", "tree", "value"]) (D_put_through : Dn P w K mg base 1 "put_through" ["deed", "value"] (spPut K)) (D_one_behind : Dn P w K mg base 2 "one_behind" ["one", "other"] (spBehind K)) : ∀ n : Nat, Dn P w K mg base (2 + n) "shared_of" ["deeds", "tree", "value"] ((spShared K) n) := by
  intro n
  induction n with
  | zero => exact D.ok fun f fd F => ⟨fun vs H Q E h => (shared_of_z B vs H Q E h).elim, fun _ _ _ _ h => (shared_of_z B _ _ _ _ h).elim⟩
  | succ n D_shared_of =>
    refine D.ok fun f fd F => okG0 (k := 2 + n) F sc_shared_of (fun vs H Q E h => ?_) (fun cdv A outer s H vs Q E hr h => ⟨_, (pss_cons (ps_if (pt_not (pt_val (pe_callB (kk (K := K) (F := rIsi) (P := CallR _ _) call_isi) (by rfl) B.isinstance_ (by decide +kernel) (pa_cons (pv 1) (pa_cons (pe_bltn (v := .ty "tuple") (u := .type "tuple") (by rfl) B.tuple_ (by decide +kernel) rfl) pa_nil)))))
      (pss_one (ps_ret (pe_tup (pa_cons (pe_lst (pa_cons (pv 2) pa_nil)) (pa_cons (pe_ix (kk (K := K) (F := rIxT) (P := IxR _) ix_tup) (pv 0) (pv 1) (fun _ _ => rfl)) pa_nil)))))
      pss_nil)
    (pss_cons (ps_asg (pe_cD D_shared_of (hr.less (by omega)) rfl (pa_cons (pv 0) (pa_cons (pe_ix (kk (K := K) (F := rIxT) (P := IxR _) ix_tup) (pv 1) pe_int (fun _ _ => rfl)) (pa_cons (pv 2) pa_nil)))) (kk (K := K) (F := fun K => gTup K 2 _) (P := PG _ _) (pg_tup rfl (pgs_cons (pg_name (i := 3) sc_shared_of.nd rfl (Or.inl rfl)) (pgs_cons (pg_name (i := 4) sc_shared_of.nd rfl (Or.inl rfl)) pgs_nil)))))
    (pss_cons (ps_asg (pe_cD D_shared_of (hr.less (by omega)) rfl (pa_cons (pv 0) (pa_cons (pe_ix (kk (K := K) (F := rIxT) (P := IxR _) ix_tup) (pv 1) pe_int (fun _ _ => rfl)) (pa_cons (pe_cD D_put_through (hr.less (by omega)) rfl (pa_cons (pv 4) (pa_cons (pv 2) pa_nil))) pa_nil)))) (kk (K := K) (F := fun K => gTup K 2 _) (P := PG _ _) (pg_tup rfl (pgs_cons (pg_name (i := 5) sc_shared_of.nd rfl (Or.inl rfl)) (pgs_cons (pg_name (i := 6) sc_shared_of.nd rfl (Or.inl rfl)) pgs_nil)))))
    (pss_one (ps_ret (pe_tup (pa_cons (pe_op op_cat (pv 3) (pv 5)) (pa_cons (pe_cD D_one_behind (hr.less (by omega)) rfl (pa_cons (pv 4) (pa_cons (pv 6) pa_nil))) pa_nil)))))))), ?_⟩)
    · obtain ⟨k, ps, v, t, f, x, rfl, _⟩ := h; rfl
    · obtain ⟨k, ps, v, t, f, z, rfl, hk, ht, hr, hl, hn, q⟩ := h
      cases t with
      | leaf m =>
        cases (show v = V.int m from ht)
        have e : m = f := hr
        subst e
        have hl' : m < ps.length := hl
        refine ⟨_, rfl, _, _, _, _, _, rfl, .ty _, .base (.int _), kit_ty (b := "tuple") (r := false) (by decide +kernel), _, rfl, iteT ?_⟩
        refine ⟨_, rfl, sz, fun l hL => ⟨_, rfl, _, rfl, k, _, _, _, rfl, rfl, SqT.of ((same_new hL _) _ _ hk.1), at_of (j := m) rfl (by rw [List.getElem?_map, List.getElem?_eq_getElem hl'] <;> rfl), sz, fun r hR => ?_⟩⟩
        have S1 := same_new hL (.lst [.int z])
        have S2 := same_new hR (HO.tup [V.ref l, V.ref ps[m].1])
        refine q r l ps[m].1 _ (S1.trans S2) upd_same (S2 _ _ upd_same) ?_
        show TupAt K _ _ ((dsOf ps).getD m look).vs
        rw [show (dsOf ps).getD m look = ps[m].2 by unfold dsOf; rw [List.getD_eq_getElem?_getD, List.getElem?_map, List.getElem?_eq_getElem hl'] <;> rfl]
        exact ((hk.2.2.2 ps[m] (List.getElem_mem hl')).1.same S1).same S2
      | node l r =>
        obtain ⟨a, x, y, hv, ha, hx, hy⟩ := ht
        cases (show v = V.ref a from hv)
        obtain ⟨i1, i2⟩ := hr
        have hn' : max l.h r.h + 1 ≤ n + 1 := hn
        have hl' : f + (l.cnt + r.cnt) ≤ ps.length := hl
        refine ⟨_, rfl, _, _, _, _, _, rfl, .ty _, .base (.tup ha), kit_ty (b := "tuple") (r := true) (by decide +kernel), _, rfl, iteF ?_⟩
        refine ⟨_, rfl, _, rfl, a, _, _, _, rfl, rfl, SqT.of ha, at_of (j := 0) rfl rfl, _, rfl, k, ps, x, l, f, z, rfl, hk, hx, i1, by omega, by omega, fun r1 l1 b1 H1 S1 g1 g2 g3 => ?_⟩
        refine ⟨r1, _, rfl, SqT.of g1, rfl, _, _, rfl, _, _, rfl, rfl, ?_⟩
        refine ⟨_, rfl, _, rfl, a, _, _, _, rfl, rfl, SqT.of (S1 _ _ ha), at_of (j := 1) rfl rfl, _, rfl, _, rfl, b1, FT (dsOf ps) l, z, rfl, g3.sq, k, ps, y, r, f + l.cnt, _, rfl, hk.same S1, hy.same S1, i2, by omega, by omega, fun r2 l2 b2 H2 S2 e1 e2 e3 => ?_⟩
        refine ⟨r2, _, rfl, SqT.of e1, rfl, _, _, rfl, _, _, rfl, rfl, ?_⟩
        have c1 := ST_len (dsOf ps) l z
        have c2 := ST_len (dsOf ps) r ((FT (dsOf ps) l).ap z)
        have h40 := hk.2.2.1
        refine ⟨_, rfl, _, rfl, l1, l2, _, _, rfl, rfl, S2 _ _ g2, e2, small (by rw [List.length_map, List.length_map]; omega), fun L hL => ⟨_, rfl, _, rfl, b1, b2, _, _, rfl, ((g3.same S2).same (same_new hL _)).sq, (e3.same (same_new hL _)).sq, fun c H3 S3 _ hc => ⟨sz, fun r3 h3 => ?_⟩⟩⟩
        have S4 := same_new hL (.lst ((ST (dsOf ps) l z).map V.int ++ (ST (dsOf ps) r ((FT (dsOf ps) l).ap z)).map V.int))
        have S5 := same_new h3 (.tup [.ref L, .ref c])
        refine q r3 L c _ (S1.trans (S2.trans (S4.trans (S3.trans S5)))) upd_same (S5 _ _ (S3 _ _ ?_)) (.inl (S5 _ _ hc))
        rw [upd_same]
        show _ = some (HO.lst ((ST (dsOf ps) l z ++ ST (dsOf ps) r ((FT (dsOf ps) l).ap z)).map V.int))
        rw [List.map_append]
theorem k_shared_of (D : Df K mg "shared_of" s_shared_of ["deeds", "tree", "value"]) (D_put_through : Dn P w K mg base 1 "put_through" ["deed", "value"] (spPut K)) (D_one_behind : Dn P w K mg base 2 "one_behind" ["one", "other"] (spBehind K)) : Dn P w K mg base 42 "shared_of" ["deeds", "tree", "value"] ((spShared K) 40) := k_shared_of_rec B D D_put_through D_one_behind 40
def spShare (K : PySem.W.Frag) : Sp := fun vs H Q _ => ∃ (k : Addr) (ps : List (Addr × Dd)) (v : V) (t : Tr) (x : Int), vs = [.ref k, v, .int x] ∧ DsAt K H k ps ∧ TrAt H v t ∧ IsRow t 0 ∧ t.cnt = ps.length ∧ ∀ a H', Same H H' → H' a = some (.tup ((ans x (dsOf ps)).map V.int)) → Q (.ref a) H'
theorem k_shared_out (D : Df K mg "shared_out" s_shared_out ["deeds", "tree", "value"]) (D_want_whole : Dn P w K mg base 2 "want_whole" ["thing"] spWantWhole) (D_want_deeds : Dn P w K mg base 4 "want_deeds" ["deeds"] (spWantDeeds K)) (D_want_tree : Dn P w K mg base 6 "want_tree" ["tree", "many"] spWantTree) (D_shared_of : Dn P w K mg base 42 "shared_of" ["deeds", "tree", "value"] ((spShared K) 40)) : Dn P w K mg base 46 "shared_out" ["deeds", "tree", "value"] (spShare K) := by
  refine D.ok fun f fd F => okG0 F sc_shared_out (fun vs H Q E h => ?_) (fun cdv A outer s H vs Q E hr h => ⟨_, (pss_cons (ps_expr (pe_cD D_want_whole (hr.less (by decide)) rfl (pa_cons (pv 2) pa_nil)))
    (pss_cons (ps_expr (pe_cD D_want_deeds (hr.less (by decide)) rfl (pa_cons (pv 0) pa_nil)))
    (pss_cons (ps_expr (pe_cD D_want_tree (hr.less (by decide)) rfl (pa_cons (pv 1) (pa_cons (pe_callB (lenK (K := K)) (by rfl) B.len_ (by decide +kernel) (pa_cons (pv 0) pa_nil)) pa_nil))))
    (pss_one (ps_ret (pe_callTy (tupOfK (K := K)) (by rfl) B.tuple_ (by decide +kernel) (pa_cons (pe_ix (kk (K := K) (F := rIxT) (P := IxR _) ix_tup) (pe_cD D_shared_of (hr.less (by decide)) rfl (pa_cons (pv 0) (pa_cons (pv 1) (pa_cons (pv 2) pa_nil)))) pe_int (fun _ _ => rfl)) pa_nil))))))), ?_⟩)
  · obtain ⟨k, ps, v, t, x, rfl, _⟩ := h; rfl
  · obtain ⟨k, ps, v, t, x, rfl, hk, ht, hr, hc, q⟩ := h
    have hk0 := hk.2
    refine ⟨_, rfl, x, rfl, _, rfl, k, ps, rfl, hk, fun H1 S1 => ?_⟩
    refine ⟨_, rfl, _, rfl, k, _, rfl, .inr (SqT.of (hk.same S1).1), v, t, ps.length, by rw [List.length_map] <;> rfl, ht.same S1, hr, hc, by omega, fun H2 S2 => ?_⟩
    have S12 := S1.trans S2
    refine ⟨_, rfl, _, rfl, _, rfl, k, ps, v, t, 0, x, rfl, hk.same S12, ht.same S12, hr, by omega, Nat.le_trans t.h_cnt (by omega), fun r l a H3 S3 h1 h2 h3 => ?_⟩
    rw [ST_all hk.oks hr (by rw [hc]; exact (List.length_map _).symm)] at h2
    refine ⟨r, _, _, _, rfl, rfl, SqT.of h1, at_of (j := 0) rfl rfl, l, _, rfl, .inl ⟨SqL.of h2, fun b hb => ?_⟩⟩
    exact q b _ (S12.trans (S3.trans (same_new hb _))) upd_same
/-! ### the law's own -/
def spPot2 (K : PySem.W.Frag) : Sp := fun vs H Q _ => ∃ (a : Addr) (ns : List Int) (k : Nat), vs = [.ref a, .int k] ∧ SqL K H a (ns.map V.int) ∧ k ≤ 60 ∧ ∀ p H', H p = none → Same H H' → PotAt H' p → Q (.ref p) H'
theorem k__law_pot (D : Df K mg "_law_pot" s__law_pot ["_law_script", "_law_k"]) : Dn P w K mg base 1 "_law_pot" ["_law_script", "_law_k"] (spPot2 K) := by
  refine D.ok fun f fd F => okG0 F sc__law_pot (fun vs H Q E h => ?_) (fun cdv A outer s H vs Q E hr h => ⟨_, (pss_cons (ps_set (i := 2) sc__law_pot.nd rfl (Or.inl rfl) (pe_lst (pa_cons pe_int (pa_cons pe_int (pa_cons pe_int (pa_cons pe_int (pa_cons pe_int (pa_cons pe_int (pa_cons pe_int (pa_cons pe_int pa_nil))))))))))
    (pss_cons (ps_set (i := 3) sc__law_pot.nd rfl (Or.inl rfl) pe_int)
    (C8.pss_cut (ps_if (pt_cmpR op_lt (pv 1) (pe_callB (lenK (K := K)) (by rfl) B.len_ (by decide +kernel) (pa_cons (pv 0) pa_nil)) (nomark _))
      (pss_one (ps_set (i := 3) sc__law_pot.nd rfl (Or.inl rfl) (pe_ix (kk (K := K) (F := rIxL) (P := IxR _) ix_list) (pv 0) (pv 1) (fun _ _ => rfl))))
      pss_nil)
    (pss_one (ps_ret (pe_lst (pa_cons (pe_callB (call_max2 rfl) (by rfl) B.max_ (by decide +kernel) (pa_cons pe_int (pa_cons (pe_op op_sub (pv 3) (pe_op op_pow pe_int pe_int)) pa_nil))) (pa_cons (pe_op op_mod (pe_op op_pow (pe_op op_add (pe_op op_add (pe_op op_mod (pv 3) (pe_ix (kk (K := K) (F := rIxL) (P := IxR _) ix_list) (pv 2) (pe_op op_mod (pv 1) pe_int) (fun _ _ => rfl))) (pe_op op_mulX pe_int (pv 1))) pe_int) pe_int) (pe_ix (kk (K := K) (F := rIxL) (P := IxR _) ix_list) (pv 2) (pe_op op_mod (pv 1) pe_int) (fun _ _ => rfl))) pa_nil)))))))), ?_⟩)
  · obtain ⟨a, ns, k, rfl, _⟩ := h; rfl
  · obtain ⟨a, ns, k, rfl, hs, hk, q⟩ := h
    refine ⟨sz, fun l hl => ?_⟩
    have S1 := same_new hl (.lst [.int 2147483629, .int 2147483587, .int 2147483579, .int 2147483563, .int 2147483549, .int 2147483543, .int 2147483497, .int 2147483489])
    refine ⟨fun σ H1 => ∃ c : Int, σ = [some (.ref a), some (.int k), some (.ref l), some (.int c)] ∧ H1 = upd H l (.lst [.int 2147483629, .int 2147483587, .int 2147483579, .int 2147483563, .int 2147483549, .int 2147483543, .int 2147483497, .int 2147483489]), ?_, ?_⟩
    · refine ⟨_, rfl, _, rfl, a, _, rfl, .inl (S1.seq hs), _, _, rfl, rfl, _, rfl, ite2 (fun c => ?_) (fun c => ?_)⟩
      · have c' : (k : Int) < ((ns.map V.int).length : Nat) := of_decide_eq_true c
        have hk2 : k < ns.length := by rw [List.length_map] at c'; omega
        exact ⟨_, rfl, _, rfl, a, _, _, _, rfl, rfl, S1.seq hs, at_of (j := k) rfl (by rw [List.getElem?_map, List.getElem?_eq_getElem hk2] <;> rfl), _, rfl, rfl⟩
      · exact ⟨_, rfl, rfl⟩
    · rintro _ _ ⟨c, rfl, rfl⟩
      obtain ⟨z, hz, hz0, hz1⟩ := menu8 (k % 8) (by omega)
      have hm1 := Int.emod_nonneg c (by omega : z ≠ 0)
      have hm2 := Int.emod_lt_of_pos c hz0
      refine ⟨_, rfl, _, _, rfl, rfl, ⟨by decide, by decide, by decide⟩, _, _, rfl, rfl, _, _, rfl, ?_⟩
      refine ⟨_, rfl, _, rfl, _, rfl, _, _, rfl, rfl, pj, l, _, _, _, rfl, rfl, SqL.of upd_same, at_of (j := k % 8) (by omega) hz, _, _, rfl, rfl, hz0, ?_⟩
      refine ⟨_, rfl, _, _, rfl, rfl, mulx 13 6 (by decide) (by omega), _, _, rfl, rfl, _, _, rfl, rfl, _, _, rfl, rfl, ⟨by decide, by decide, by omega⟩, ?_⟩
      refine ⟨_, rfl, _, rfl, _, _, rfl, rfl, pj, l, _, _, _, rfl, rfl, SqL.of upd_same, at_of (j := k % 8) (by omega) hz, _, _, rfl, rfl, hz0, sz, fun p hp => ?_⟩
      refine q p _ (S1.free hp) (S1.trans (same_new hp _)) ⟨_, _, upd_same, ?_, Int.emod_nonneg _ (by omega), ?_⟩
      · split <;> omega
      · have := Int.emod_lt_of_pos ((c % z + 7919 * k + 5) ^ (Int.toNat 3)) hz0
        exact Int.lt_of_lt_of_le this (Int.le_trans hz1 (by decide))
def spTake : Sp := fun vs H Q _ => ∃ (p : Addr) (m : Int), vs = [.ref p, .int m] ∧ PotAt H p ∧ 1 ≤ m ∧ m < 2 ^ 200 ∧ ∀ (d : Int) H', 0 ≤ d → d < m → But p H H' → PotAt H' p → Q (.int d) H'
theorem k__law_draw (D : Df K mg "_law_draw" s__law_draw ["_law_pot_here", "_law_many"]) : Dn P w K mg base 1 "_law_draw" ["_law_pot_here", "_law_many"] spTake := by
  refine D.ok fun f fd F => okG0 F sc__law_draw (fun vs H Q E h => ?_) (fun cdv A outer s H vs Q E hr h => ⟨_, (pss_cons (ps_if (pt_cmpR op_gt (pe_ix (kk (K := K) (F := rIxL) (P := IxR _) ix_list) (pv 0) pe_int (fun _ _ => rfl)) pe_int (nomark _))
      (pss_cons (ps_set (i := 2) sc__law_draw.nd rfl (Or.inl rfl) (pe_op op_mod (pe_ix (kk (K := K) (F := rIxL) (P := IxR _) ix_list) (pv 0) pe_int (fun _ _ => rfl)) (pv 1)))
      (pss_cons (ps_asg (pe_op op_fdivW (pe_ix (kk (K := K) (F := rIxL) (P := IxR _) ix_list) (pv 0) pe_int (fun _ _ => rfl)) (pv 1)) (pg_sub (pv 0) pe_int set_list))
      (pss_one (ps_ret (pv 2)))))
      pss_nil)
    (pss_cons (ps_asg (pe_op op_mod (pe_op op_add (pe_op op_mulX (pe_ix (kk (K := K) (F := rIxL) (P := IxR _) ix_list) (pv 0) pe_int (fun _ _ => rfl)) pe_int) pe_int) pe_int) (pg_sub (pv 0) pe_int set_list))
    (pss_one (ps_ret (pe_op op_mod (pe_op op_fdivW (pe_op op_mod (pe_op op_mulX (pe_ix (kk (K := K) (F := rIxL) (P := IxR _) ix_list) (pv 0) pe_int (fun _ _ => rfl)) (pe_ix (kk (K := K) (F := rIxL) (P := IxR _) ix_list) (pv 0) pe_int (fun _ _ => rfl))) pe_int) pe_int) (pv 1)))))), ?_⟩)
  · obtain ⟨p, m, rfl, _⟩ := h; rfl
  · obtain ⟨p, m, rfl, ⟨a, b, hp, ha, hb, hb2⟩, hm, hm2, q⟩ := h
    refine ⟨_, rfl, p, _, _, _, rfl, rfl, SqL.of hp, at_of (j := 0) rfl rfl, _, _, rfl, rfl, _, rfl, ite2 (fun c => ?_) (fun c => ?_)⟩
    · refine ⟨_, rfl, p, _, _, _, rfl, rfl, SqL.of hp, at_of (j := 0) rfl rfl, _, rfl, _, _, rfl, rfl, by omega, ?_⟩
      refine ⟨_, rfl, p, _, _, _, rfl, rfl, SqL.of hp, at_of (j := 0) rfl rfl, _, rfl, _, _, rfl, rfl, ⟨by omega, Nat.lt_trans (log_lt (n := 200) (by decide) (by omega)) (by decide)⟩, _, rfl, p, _, _, _, rfl, rfl, hp, rfl, _, rfl, ?_⟩
      have h1 := Int.emod_nonneg a (by omega : m ≠ 0)
      have h2 := Int.emod_lt_of_pos a (by omega : 0 < m)
      have h3 := Int.ediv_nonneg ha (by omega : 0 ≤ m)
      exact q _ _ h1 h2 But.upd ⟨_, _, upd_same, h3, hb, hb2⟩
    · have hm1 := Int.emod_nonneg (b * 39373 + 7919) (by decide : (2147483629 : Int) ≠ 0)
      have hm3 := Int.emod_lt_of_pos (b * 39373 + 7919) (by decide : (0 : Int) < 2147483629)
      refine ⟨_, rfl, p, _, _, _, rfl, rfl, SqL.of hp, at_of (j := 1) rfl rfl, _, _, rfl, rfl, mulx 40 16 (by omega) (by decide), _, _, rfl, rfl, _, _, rfl, rfl, pj, ?_⟩
      refine ⟨_, rfl, p, _, _, _, rfl, rfl, hp, rfl, ?_⟩
      refine ⟨_, rfl, p, _, _, _, rfl, rfl, SqL.of upd_same, at_of (j := 1) rfl rfl, _, rfl, p, _, _, _, rfl, rfl, SqL.of upd_same, at_of (j := 1) rfl rfl, _, _, rfl, rfl, mulx 31 31 (by omega) (by omega), ?_⟩
      refine ⟨_, _, rfl, rfl, pj, _, _, rfl, rfl, ⟨by decide, by decide⟩, _, rfl, _, _, rfl, rfl, hm, ?_⟩
      exact q _ _ (Int.emod_nonneg _ (by omega)) (Int.emod_lt_of_pos _ (by omega)) But.upd ⟨_, _, upd_same, ha, hm1, by omega⟩
theorem k__law_done (D : Df K mg "_law_done" s__law_done ["_law_deed_here", "_law_value"]) : Dn P w K mg base 1 "_law_done" ["_law_deed_here", "_law_value"] (spPut K) := by
  refine D.ok fun f fd F => okG0 F sc__law_done (fun vs H Q E h => ?_) (fun cdv A outer s H vs Q E hr h => ⟨_, (pss_cons (ps_asg (pv 0) (kk (K := K) (F := fun K => gTup K 3 _) (P := PG _ _) (pg_tup rfl (pgs_cons (pg_name (i := 2) sc__law_done.nd rfl (Or.inl rfl)) (pgs_cons (pg_name (i := 3) sc__law_done.nd rfl (Or.inl rfl)) (pgs_cons (pg_name (i := 4) sc__law_done.nd rfl (Or.inl rfl)) pgs_nil))))))
    (pss_cons (ps_set (i := 1) sc__law_done.nd rfl (Or.inl rfl) (pe_op op_add (pv 1) (pv 2)))
    (C8.pss_cut (ps_if (PW.pt (pw_and (pt_cmpR op_notN (pv 3) pe_non (nomark _)) (pw_and1 (pt_cmpR op_lt (pv 1) (pv 3) (nomark _)))))
      (pss_one (ps_set (i := 1) sc__law_done.nd rfl (Or.inl rfl) (pv 3)))
      pss_nil)
    (pss_cons (ps_if (PW.pt (pw_and (pt_cmpR op_notN (pv 4) pe_non (nomark _)) (pw_and1 (pt_cmpR op_gt (pv 1) (pv 4) (nomark _)))))
      (pss_one (ps_set (i := 1) sc__law_done.nd rfl (Or.inl rfl) (pv 4)))
      pss_nil)
    (pss_one (ps_ret (pv 1))))))), ?_⟩)
  · obtain ⟨a, d, v, rfl, _⟩ := h; rfl
  · obtain ⟨a, d, v, rfl, hx, q⟩ := h
    refine ⟨_, rfl, a, _, rfl, hx, rfl, _, _, rfl, _, _, rfl, _, _, rfl, rfl, ?_⟩
    refine ⟨_, rfl, _, rfl, _, _, rfl, rfl, ?_⟩
    obtain ⟨add, low, high⟩ := d
    refine ⟨fun σ H1 => H1 = H ∧ σ = [some (.ref a), some (.int (up low (v + add))), some (.int add), some (oV low), some (oV high)], ?_, ?_⟩
    · cases low with
      | none => exact ⟨_, rfl, rfl, _, rfl, iteF ⟨rfl, rfl⟩⟩
      | some l =>
        refine ⟨_, rfl, rfl, _, rfl, iteT ⟨_, rfl, _, rfl, _, _, rfl, rfl, _, rfl, ite2 (fun c => ⟨_, rfl, rfl, ?_⟩) (fun c => ⟨rfl, ?_⟩)⟩⟩
        · have c' : v + add < l := of_decide_eq_true c
          show _ = [_, some (V.int (if v + add > l then v + add else l)), _, _, _]
          rw [if_neg (by omega)] <;> rfl
        · have c' : ¬ v + add < l := of_decide_eq_false (Bool.eq_false_iff.mpr c)
          show _ = [_, some (V.int (if v + add > l then v + add else l)), _, _, _]
          by_cases c2 : v + add > l
          · rw [if_pos c2] <;> rfl
          · have : v + add = l := by omega
            rw [if_neg c2, ← this] <;> rfl
    · rintro _ _ ⟨rfl, rfl⟩
      have q' : Q (.int (dn high (up low (v + add)))) _ := q
      generalize up low (v + add) = u at q'
      cases high with
      | none => exact ⟨_, rfl, rfl, _, rfl, iteF (iteF ⟨_, rfl, q'⟩)⟩
      | some h =>
        refine ⟨_, rfl, rfl, _, rfl, iteT ⟨_, rfl, _, rfl, _, _, rfl, rfl, _, rfl, ite2 (fun c => ⟨_, rfl, _, rfl, ?_⟩) (fun c => ⟨_, rfl, ?_⟩)⟩⟩
        · have c' : u > h := of_decide_eq_true c
          exact qi q' (by show (if u < h then u else h) = h; rw [if_neg (by omega)])
        · have c' : ¬ u > h := of_decide_eq_false (Bool.eq_false_iff.mpr c)
          refine qi q' ?_
          show (if u < h then u else h) = u
          by_cases c2 : u < h
          · rw [if_pos c2]
          · rw [if_neg c2]; omega
theorem k__law_behind (D : Df K mg "_law_behind" s__law_behind ["_law_one", "_law_other"]) (D__law_done : Dn P w K mg base 1 "_law_done" ["_law_deed_here", "_law_value"] (spPut K)) : Dn P w K mg base 2 "_law_behind" ["_law_one", "_law_other"] (spBehind K) := by
  refine D.ok fun f fd F => okG0 F sc__law_behind (fun vs H Q E h => ?_) (fun cdv A outer s H vs Q E hr h => ⟨_, (pss_cons (ps_set (i := 2) sc__law_behind.nd rfl (Or.inl rfl) (pe_ix (kk (K := K) (F := rIxT) (P := IxR _) ix_tup) (pv 1) pe_int (fun _ _ => rfl)))
    (pss_cons (ps_set (i := 3) sc__law_behind.nd rfl (Or.inl rfl) (pe_ix (kk (K := K) (F := rIxT) (P := IxR _) ix_tup) (pv 1) pe_int (fun _ _ => rfl)))
    (C8.pss_cut (ps_if (pt_cmpR op_notN (pe_ix (kk (K := K) (F := rIxT) (P := IxR _) ix_tup) (pv 0) pe_int (fun _ _ => rfl)) pe_non (nomark _))
      (pss_one (ps_set (i := 2) sc__law_behind.nd rfl (Or.inl rfl) (pe_cD D__law_done (hr.less (by decide)) rfl (pa_cons (pv 1) (pa_cons (pe_ix (kk (K := K) (F := rIxT) (P := IxR _) ix_tup) (pv 0) pe_int (fun _ _ => rfl)) pa_nil)))))
      pss_nil)
    (C8.pss_cut (ps_if (pt_cmpR op_notN (pe_ix (kk (K := K) (F := rIxT) (P := IxR _) ix_tup) (pv 0) pe_int (fun _ _ => rfl)) pe_non (nomark _))
      (pss_one (ps_set (i := 3) sc__law_behind.nd rfl (Or.inl rfl) (pe_cD D__law_done (hr.less (by decide)) rfl (pa_cons (pv 1) (pa_cons (pe_ix (kk (K := K) (F := rIxT) (P := IxR _) ix_tup) (pv 0) pe_int (fun _ _ => rfl)) pa_nil)))))
      pss_nil)
    (pss_cons (ps_if (PW.pt (pw_and (pt_cmpR op_notN (pv 2) pe_non (nomark _)) (pw_and1 (pt_cmpR op_eq (pv 2) (pv 3) (nomark _)))))
      (pss_one (ps_ret (pe_tup (pa_cons pe_int (pa_cons (pv 2) (pa_cons (pv 2) pa_nil))))))
      pss_nil)
    (pss_one (ps_ret (pe_tup (pa_cons (pe_op op_add (pe_ix (kk (K := K) (F := rIxT) (P := IxR _) ix_tup) (pv 0) pe_int (fun _ _ => rfl)) (pe_ix (kk (K := K) (F := rIxT) (P := IxR _) ix_tup) (pv 1) pe_int (fun _ _ => rfl))) (pa_cons (pv 2) (pa_cons (pv 3) pa_nil))))))))))), ?_⟩)
  · obtain ⟨a, b, d, e, rfl, _⟩ := h; rfl
  · obtain ⟨a, b, d, e, rfl, ha, hb, q⟩ := h
    refine ⟨_, rfl, b, _, _, _, rfl, rfl, hb, at_of (j := 1) rfl rfl, _, rfl, b, _, _, _, rfl, rfl, hb, at_of (j := 2) rfl rfl, ?_⟩
    refine ⟨fun σ H1 => H1 = H ∧ σ = [some (.ref a), some (.ref b), some (oV (endBeh e d.low e.low)), some (oV e.high)], ?_, ?_⟩
    · refine ⟨_, rfl, a, _, _, _, rfl, rfl, ha, at_of (j := 1) rfl rfl, rfl, _, rfl, ?_⟩
      cases el : d.low with
      | none => exact iteF ⟨rfl, rfl⟩
      | some k => exact iteT ⟨_, rfl, _, rfl, a, _, _, _, rfl, rfl, ha, at_of (j := 1) rfl rfl, b, e, k, by rw [el] <;> rfl, hb, rfl, rfl⟩
    rintro _ G ⟨hG, rfl⟩
    subst hG
    refine ⟨fun σ H1 => H1 = G ∧ σ = [some (.ref a), some (.ref b), some (oV (endBeh e d.low e.low)), some (oV (endBeh e d.high e.high))], ?_, ?_⟩
    · refine ⟨_, rfl, a, _, _, _, rfl, rfl, ha, at_of (j := 2) rfl rfl, rfl, _, rfl, ?_⟩
      cases el : d.high with
      | none => exact iteF ⟨rfl, rfl⟩
      | some k => exact iteT ⟨_, rfl, _, rfl, a, _, _, _, rfl, rfl, ha, at_of (j := 2) rfl rfl, b, e, k, by rw [el] <;> rfl, hb, rfl, rfl⟩
    rintro _ G2 ⟨hG, rfl⟩
    subst hG
    have q' : NewD G2 Q (wholeD (d.add + e.add) (endBeh e d.low e.low) (endBeh e d.high e.high)) := q
    generalize endBeh e d.low e.low = lo at q'
    generalize endBeh e d.high e.high = hi at q'
    have last : lo ≠ none ∧ lo = hi ∨ wholeD (d.add + e.add) lo hi = ⟨d.add + e.add, lo, hi⟩ := by
      by_cases c : lo ≠ none ∧ lo = hi
      · exact .inl c
      · exact .inr (if_neg c)
    have fin : wholeD (d.add + e.add) lo hi = ⟨d.add + e.add, lo, hi⟩ → tRet (tTup (tCons (tOp (rI0 fun i j => V.int (i + j)) (tOp (rIxT K) (tVar 0) (tC (.int 0))) (tOp (rIxT K) (tVar 1) (tC (.int 0)))) (tCons (tVar 2) (tCons (tVar 3) tNil)))) { nx := fun _ H' => Q .non H', rt := Q } [some (.ref a), some (.ref b), some (oV lo), some (oV hi)] G2 := fun h => by
      rw [h] at q'
      exact ⟨_, rfl, a, _, _, _, rfl, rfl, ha, at_of (j := 0) rfl rfl, _, rfl, b, _, _, _, rfl, rfl, hb, at_of (j := 0) rfl rfl, _, _, rfl, rfl, _, rfl, _, rfl, sz, fun p hp => q' p _ (same_new hp _) hp upd_same⟩
    cases lo with
    | none => exact ⟨_, rfl, rfl, _, rfl, iteF (iteF (fin (if_neg fun z => z.1 rfl)))⟩
    | some l =>
      refine ⟨_, rfl, rfl, _, rfl, iteT ⟨_, rfl, _, rfl, ?_⟩⟩
      cases hi with
      | none => exact ⟨rfl, _, rfl, iteF (fin (if_neg fun z => nomatch z.2))⟩
      | some h =>
        refine ⟨rfl, _, rfl, ite2 (fun c => ?_) (fun c => ?_)⟩
        · have c' : l = h := by have := of_decide_eq_true c; cases this; rfl
          subst c'
          rw [show wholeD (d.add + e.add) (some l) (some l) = ⟨0, some l, some l⟩ from if_pos ⟨Option.some_ne_none l, rfl⟩] at q'
          exact ⟨_, rfl, _, rfl, sz, fun p hp => q' p _ (same_new hp _) hp upd_same⟩
        · exact fin (if_neg fun z => c (decide_eq_true (by rw [Option.some.inj z.2])))
def spLT (n : Nat) : Sp := fun vs H Q _ => ∃ (p : Addr) (f m : Nat) (c : Int), vs = [.ref p, .int f, .int m, .int c] ∧ PotAt H p ∧ 1 ≤ m ∧ m ≤ n ∧ m ≤ 40 ∧ 0 ≤ c ∧ c < 3 ∧ ∀ v t H', But p H H' → PotAt H' p → TrAt H' v t → IsRow t f → t.cnt = m → Q v H'
theorem _law_tree_z (vs : List V) (H : Hp) (Q : VK) (E : XK) : ¬ spLT 0 vs H Q E := by
  rintro ⟨p, f, m, c, _, _, h1, h2, _⟩
  omega
theorem k__law_tree_rec (D : Df K mg "_law_tree" s__law_tree ["_law_pot_here", "_law_first", "_law_many", "_law_choice"]) (D__law_draw : Dn P w K mg base 1 "_law_draw" ["_law_pot_here", "_law_many"] spTake) : ∀ n : Nat, Dn P w K mg base (2 + n) "_law_tree" ["_law_pot_here", "_law_first", "_law_many", "_law_choice"] (spLT n) := by
  intro n
  induction n with
  | zero => exact D.ok fun f fd F => ⟨fun vs H Q E h => (_law_tree_z B vs H Q E h).elim, fun _ _ _ _ h => (_law_tree_z B _ _ _ _ h).elim⟩
  | succ n D__law_tree =>
    refine D.ok fun f fd F => okG0 (k := 2 + n) F sc__law_tree (fun vs H Q E h => ?_) (fun cdv A outer s H vs Q E hr h => ⟨_, (pss_cons (ps_if (pt_cmpR op_eq (pv 2) pe_int (nomark _))
      (pss_one (ps_ret (pv 1)))
      pss_nil)
    (pss_cons (ps_set (i := 4) sc__law_tree.nd rfl (Or.inl rfl) (pe_ix (kk (K := K) (F := rIxL) (P := IxR _) ix_list) (pe_lst (pa_cons (pe_op op_add pe_int (pe_cD D__law_draw (hr.less (by omega)) rfl (pa_cons (pv 0) (pa_cons (pe_op op_sub (pv 2) pe_int) pa_nil)))) (pa_cons pe_int (pa_cons (pe_op op_sub (pv 2) pe_int) pa_nil)))) (pv 3) (fun _ _ => rfl)))
    (pss_one (ps_ret (pe_tup (pa_cons (pe_cD D__law_tree (hr.less (by omega)) rfl (pa_cons (pv 0) (pa_cons (pv 1) (pa_cons (pv 4) (pa_cons (pv 3) pa_nil))))) (pa_cons (pe_cD D__law_tree (hr.less (by omega)) rfl (pa_cons (pv 0) (pa_cons (pe_op op_add (pv 1) (pv 4)) (pa_cons (pe_op op_sub (pv 2) (pv 4)) (pa_cons (pv 3) pa_nil))))) pa_nil))))))), ?_⟩)
    · obtain ⟨p, f, m, c, rfl, _⟩ := h; rfl
    · obtain ⟨p, f, m, ch, rfl, hp, h1, h2, h40, c0, c3, q⟩ := h
      refine ⟨_, rfl, rfl, _, rfl, ite2 (fun c => ?_) (fun c => ?_)⟩
      · have c' : m = 1 := by have := V.int.inj (of_decide_eq_true c); omega
        subst c'
        exact ⟨_, rfl, q _ (.leaf f) _ But.refl hp rfl rfl rfl⟩
      · have c' : m ≠ 1 := fun z => c (by subst z; rfl)
        refine ⟨_, rfl, _, rfl, _, _, rfl, rfl, p, _, rfl, hp, by omega, Int.lt_of_le_of_lt (b := 40) (by omega) (by decide), fun e H1 e0 e1 b1 p1 => ⟨_, _, rfl, rfl, ?_⟩⟩
        obtain ⟨z, hz, hz1⟩ := at3 (x0 := 1 + e) (x1 := 1) (x2 := (m : Int) - 1) ch.toNat (by omega)
        obtain ⟨lf, rfl⟩ : ∃ n : Nat, z = (n : Int) := ⟨z.toNat, by omega⟩
        refine ⟨_, rfl, _, _, rfl, rfl, sz, fun l hl => ⟨_, rfl, l, _, _, _, rfl, rfl, SqL.of upd_same, at_of (j := ch.toNat) (by omega) hz, ?_⟩⟩
        have S1 := same_new hl (.lst [.int (1 + e), .int 1, .int ((m : Int) - 1)])
        refine ⟨_, rfl, _, rfl, _, rfl, _, rfl, p, f, lf, ch, rfl, p1.same S1, by omega, by omega, by omega, c0, c3, fun v1 t1 H2 b2 p2 k1 k2 k3 => ?_⟩
        refine ⟨_, rfl, _, rfl, _, rfl, _, _, rfl, rfl, _, rfl, _, rfl, _, _, rfl, rfl, _, rfl, p, f + lf, m - lf, ch, ?_, p2, by omega, by omega, by omega, c0, c3, fun v2 t2 H3 b3 p3 g1 g2 g3 => ⟨sz, fun a ha => ?_⟩⟩
        · show [V.ref p, V.int ((f : Int) + (lf : Int)), V.int ((m : Int) - (lf : Int)), V.int ch] = _
          rw [show (f : Int) + (lf : Int) = ((f + lf : Nat) : Int) by omega, show (m : Int) - (lf : Int) = ((m - lf : Nat) : Int) by omega] <;> rfl
        · have S3 := same_new ha (.tup [v1, v2])
          obtain ⟨_, _, hp2, _⟩ := p2
          refine q _ (.node t1 t2) _ (b1.trans ((same_but S1).trans (b2.trans (b3.trans (same_but S3))))) (p3.same S3) ⟨a, v1, v2, rfl, upd_same, (k1.but b3 hp2).same S3, g1.same S3⟩ ⟨k2, by rw [k3]; exact g2⟩ ?_
          show t1.cnt + t2.cnt = m
          omega
theorem k__law_tree (D : Df K mg "_law_tree" s__law_tree ["_law_pot_here", "_law_first", "_law_many", "_law_choice"]) (D__law_draw : Dn P w K mg base 1 "_law_draw" ["_law_pot_here", "_law_many"] spTake) : Dn P w K mg base 42 "_law_tree" ["_law_pot_here", "_law_first", "_law_many", "_law_choice"] (spLT 40) := k__law_tree_rec B D D__law_draw 40
/-! SPLIT -/
local macro_rules | `(tactic| walk_at "own") => `(tactic| fail)
local macro_rules | `(tactic| walk_at "sm") => `(tactic| first
  | with_reducible assumption
  | exact fun _ _ z => z
  | (apply Toy.same_bk; (with_reducible assumption); walk_at "sm")
  | solve_by_elim only [Toy.same_bk, *])
local macro_rules | `(tactic| walk_at "hp") => `(tactic| ((with_reducible refine (?_ : _ = some _)); first
  | with_reducible assumption
  | exact L2.upd_same
  | (apply Toy.hp_new; assumption; walk_at "hp")
  | (apply Toy.hp_at; (with_reducible assumption); walk_at "sm")))
local macro_rules | `(tactic| walk_at "sql") => `(tactic| first
  | with_reducible assumption
  | (apply L2.SqL.of; walk_at "hp")
  | (apply Toy.sql_at; (with_reducible assumption); walk_at "sm"))
local macro_rules | `(tactic| walk_at "sqt") => `(tactic| first
  | with_reducible assumption
  | (apply L2.SqT.of; walk_at "hp")
  | (apply Toy.sqt_at; (with_reducible assumption); walk_at "sm"))
local macro_rules | `(tactic| walk_at "ar") => `(tactic| first
  | with_reducible refine (?_ : (_ : Int) < _)
  | with_reducible refine (?_ : (_ : Int) ≤ _)
  | with_reducible refine (?_ : (_ : Nat) < _)
  | with_reducible refine (?_ : (_ : Nat) ≤ _)
  | with_reducible refine (?_ : (_ : Int) = _)
  | with_reducible refine (?_ : (_ : Nat) = _)
  | with_reducible refine (?_ : ¬ _)
  | with_reducible refine (?_ : _ ∧ _))
local macro_rules | `(tactic| walk_at "om") => `(tactic| (walk_at "ar"; omega))
local macro_rules | `(tactic| walk_at "num") => `(tactic| first
  | (walk_at "ar"; first
    | omega
    | (simp only [List.length_map, List.length_append, List.length_cons, List.length_nil, List.length_replicate, List.length_take, List.length_drop, List.length_range, List.length_set, List.length_reverse] <;> omega)
    | decide
    | (split <;> split <;> omega)
    | (split <;> omega))
  | decide)
local macro_rules | `(tactic| walk_at "side") => `(tactic| first
  | with_reducible rfl
  | walk_at "om"
  | with_reducible assumption
  | exact Toy.sz
  | (apply L2.SqL.of; walk_at "hp")
  | (apply L2.SqT.of; walk_at "hp")
  | (with_reducible apply Or.inl; walk_at "sql")
  | (with_reducible apply Or.inr; walk_at "sqt")
  | (with_reducible apply Exists.intro; walk_at "side")
  | walk_at "hp"
  | exact Eq.refl _
  | (apply Toy.lk1000; walk_at "num")
  | (apply Toy.lt1000; walk_at "num")
  | walk_at "num"
  | (apply Toy.lst_dp; apply L2.SqL.of; walk_at "hp")
  | (apply Toy.tupI_dp; apply L2.SqT.of; walk_at "hp")
  | exact Toy.ints_sh _
  | exact Toy.tupI_sh _
  | (apply L2.RgOk.of_le <;> walk_at "num")
  | (apply L2.atI_nat; assumption)
  | exact L2.Dp.lst (L2.SqL.of (by walk_at "hp")) L2.DpAll.nil
  | exact L2.Dp.tup (L2.SqT.of (by walk_at "hp")) L2.DpAll.nil
  | (apply Toy.ixn; walk_at "num")
  | exact Toy.tyL (by walk_at "hp")
  | walk_at "sql"
  | walk_at "sqt"
  | exact L2.ClsV.ty _
  | (apply L2.TyX.base; first | exact L2.TyOf.int _ | exact L2.TyOf.bl _ | exact L2.TyOf.non | exact L2.TyOf.str _ | (apply L2.TyOf.tup; walk_at "hp") | (apply L2.TyOf.lst; walk_at "hp"))
  | exact L2.kit_ty (r := true) (by decide +kernel)
  | exact L2.kit_ty (r := false) (by decide +kernel)
  | walk_at "own"
  | assumption
  | (walk_at "ar"; solve_by_elim only [Toy.hp_same, Toy.hp_new, L2.upd_same, *]))
local macro_rules | `(tactic| walk_at "go") => `(tactic| first
  | (apply And.intro; (focus (walk_at "side")); try walk_at "go")
  | (apply Exists.intro; rotate_left; (fail_if_success (with_reducible refine (?_ : Nat → _ → _))); (fail_if_success (with_reducible refine (?_ : L2.St → _ → _))); rotate_right; try walk_at "go")
  | (apply Or.inl; apply And.intro; (focus (walk_at "sql")); try walk_at "go")
  | (apply Or.inr; apply And.intro; (focus (walk_at "sqt")); try walk_at "go"))
/-! ENDM -/
local macro_rules | `(tactic| walk_at "own") => `(tactic| first | exact L2.ClsV.own _ | exact L2.ClsV.ty _)
def spFar : Sp := fun vs H Q _ => ∃ (p : Addr), vs = [.ref p] ∧ PotAt H p ∧ ∀ (f : Int) H', 0 ≤ f → f < 10 ^ 30 → But p H H' → PotAt H' p → Q (.int f) H'
theorem k__law_far (D : Df K mg "_law_far" s__law_far ["_law_pot_here"]) (D__law_draw : Dn P w K mg base 1 "_law_draw" ["_law_pot_here", "_law_many"] spTake) : Dn P w K mg base 2 "_law_far" ["_law_pot_here"] spFar := by
  refine D.ok fun f fd F => okG0 F sc__law_far (fun vs H Q E h => ?_) (fun cdv A outer s H vs Q E hr h => ⟨_, (pss_cons (ps_set (i := 1) sc__law_far.nd rfl (Or.inl rfl) pe_int)
    (pss_cons (ps_for PassesOwn.never rfl (pi_range1 (by rfl) B.range_ (pa_cons pe_int pa_nil)) (pg_name (i := 2) sc__law_far.nd rfl (Or.inl rfl))
      (pss_one (ps_set (i := 1) sc__law_far.nd rfl (Or.inl rfl) (pe_op op_add (pe_op op_mulX (pv 1) (pe_op op_pow pe_int pe_int)) (pe_cD D__law_draw (hr.less (by decide)) rfl (pa_cons (pv 0) (pa_cons (pe_op op_pow pe_int pe_int) pa_nil)))))))
    (pss_one (ps_ret (pv 1))))), ?_⟩)
  · obtain ⟨p, rfl, _⟩ := h; rfl
  · obtain ⟨p, rfl, hp, q⟩ := h
    have cp : CPow 10 6 := ⟨by decide, by decide, by decide⟩
    try walk_at "go"
    refine for_range (lo := 0) (n := 5) (fun i σ H2 => Kept (∃ (f : Int) (v : Option V), σ = [some (.ref p), some (.int f), v] ∧ But p H H2 ∧ PotAt H2 p ∧ 0 ≤ f ∧ f < 10 ^ (6 * i))) ⟨⟨0, none, rfl, But.refl, hp, by decide, by decide⟩⟩ ?_ ?_
    · rintro i σ H2 hi ⟨f, v, rfl, b2, p2, f0, f1⟩
      have f2 : f < 10 ^ 24 := Int.lt_of_lt_of_le f1 ((by decide : ∀ i, i < 5 → (10 : Int) ^ (6 * i) ≤ 10 ^ 24) i hi)
      refine ⟨_, rfl, _, _, rfl, rfl, cp, _, _, rfl, rfl, mulx 90 20 (by omega) (by decide), ?_⟩
      refine ⟨_, rfl, _, _, rfl, rfl, cp, p, _, rfl, p2, by decide, by decide, fun e H3 e0 e1 b3 p3 => ⟨_, _, rfl, rfl, ?_⟩⟩
      refine ⟨⟨_, _, rfl, b2.trans b3, p3, ?_, ?_⟩⟩
      · show 0 ≤ f * 10 ^ 6 + e; omega
      · show f * 10 ^ 6 + e < 10 ^ (6 * (i + 1))
        have e1' : e < 10 ^ 6 := e1
        have : (10 : Int) ^ (6 * (i + 1)) = 10 ^ (6 * i) * 10 ^ 6 := by rw [Nat.mul_add, Int.pow_add]
        rw [this]
        omega
    · rintro σ H2 ⟨f, v, rfl, b2, p2, f0, f1⟩
      exact ⟨_, rfl, q f H2 f0 f1 b2 p2⟩
def spNumber : Sp := fun vs H Q _ => ∃ (p : Addr), vs = [.ref p] ∧ PotAt H p ∧ ∀ (n : Int) H', -(10 ^ 30) ≤ n → n ≤ 10 ^ 30 → But p H H' → PotAt H' p → Q (.int n) H'
theorem k__law_number (D : Df K mg "_law_number" s__law_number ["_law_pot_here"]) (D__law_draw : Dn P w K mg base 1 "_law_draw" ["_law_pot_here", "_law_many"] spTake) (D__law_far : Dn P w K mg base 2 "_law_far" ["_law_pot_here"] spFar) : Dn P w K mg base 3 "_law_number" ["_law_pot_here"] spNumber := by
  refine D.ok fun f fd F => okG0 F sc__law_number (fun vs H Q E h => ?_) (fun cdv A outer s H vs Q E hr h => ⟨_, (pss_cons (ps_set (i := 1) sc__law_number.nd rfl (Or.inl rfl) (pe_cD D__law_draw (hr.less (by decide)) rfl (pa_cons (pv 0) (pa_cons pe_int pa_nil))))
    (pss_cons (ps_if (pt_cmpR op_eq (pv 1) pe_int (nomark _))
      (pss_one (ps_ret (pe_op op_mulX (pe_op op_mod (pe_cD D__law_far (hr.less (by decide)) rfl (pa_cons (pv 0) pa_nil)) (pe_op op_sub (pe_op op_pow pe_int pe_int) pe_int)) (pe_op op_sub pe_int (pe_op op_mulX pe_int (pe_cD D__law_draw (hr.less (by decide)) rfl (pa_cons (pv 0) (pa_cons pe_int pa_nil))))))))
      pss_nil)
    (pss_one (ps_ret (pe_op op_sub (pe_cD D__law_draw (hr.less (by decide)) rfl (pa_cons (pv 0) (pa_cons (pe_ix (kk (K := K) (F := rIxL) (P := IxR _) ix_list) (pe_lst (pa_cons pe_int (pa_cons pe_int (pa_cons pe_int pa_nil)))) (pe_op op_sub (pv 1) pe_int) (fun _ _ => rfl)) pa_nil))) (pe_ix (kk (K := K) (F := rIxL) (P := IxR _) ix_list) (pe_lst (pa_cons pe_int (pa_cons pe_int (pa_cons pe_int pa_nil)))) (pe_op op_sub (pv 1) pe_int) (fun _ _ => rfl))))))), ?_⟩)
  · obtain ⟨p, rfl, _⟩ := h; rfl
  · obtain ⟨p, rfl, hp, q⟩ := h
    refine ⟨_, rfl, p, 4, rfl, hp, by decide, by decide, fun d H1 d0 d6 b1 p1 => ?_⟩
    refine ⟨_, rfl, rfl, _, rfl, ite2 (fun c => ?_) (fun c => ?_)⟩
    · refine ⟨_, rfl, p, rfl, p1, fun f H2 f0 f1 b2 p2 => ?_⟩
      refine ⟨_, _, rfl, rfl, ⟨by decide, by decide, by decide⟩, _, _, rfl, rfl, _, _, rfl, rfl, pj, ?_⟩
      have g1 := Int.emod_nonneg f (by decide : (10 ^ Int.toNat 30 - 20 : Int) ≠ 0)
      have g2 := Int.emod_lt_of_pos f (by decide : (0 : Int) < 10 ^ Int.toNat 30 - 20)
      have g3 : (10 ^ Int.toNat 30 - 20 : Int) ≤ 10 ^ 30 := by decide
      refine ⟨_, rfl, p, 2, rfl, p2, by decide, by decide, fun c H3 c0 c2 b3 p3 => ⟨_, _, rfl, rfl, mulx 2 2 (by decide) (by omega), _, _, rfl, rfl, _, _, rfl, rfl, mulx 100 2 (by omega) (by omega), ?_⟩⟩
      have : c = 0 ∨ c = 1 := by omega
      refine q _ _ ?_ ?_ (b1.trans (b2.trans b3)) p3
      · rcases this with rfl | rfl <;> omega
      · rcases this with rfl | rfl <;> omega
    · have dn : d ≠ 0 := fun z => by subst z; exact c rfl
      obtain ⟨j, rfl⟩ : ∃ j : Nat, d = (j : Int) + 1 := ⟨(d - 1).toNat, by omega⟩
      obtain ⟨z, hz, z1⟩ := at3 (x0 := 3) (x1 := 19) (x2 := 199) j (by omega)
      obtain ⟨y, hy, y1⟩ := at3 (x0 := 1) (x1 := 9) (x2 := 99) j (by omega)
      refine ⟨_, rfl, sz, fun l hl => ⟨_, rfl, _, _, rfl, rfl, l, _, _, _, rfl, rfl, SqL.of upd_same, at_of (j := j) (by omega) hz, ?_⟩⟩
      refine ⟨p, z, rfl, p1.same (same_new hl _), by omega, Int.lt_of_le_of_lt (b := 199) (by omega) (by decide), fun e H2 e0 e1 b2 p2 => ?_⟩
      refine ⟨sz, fun m hm => ⟨_, rfl, _, _, rfl, rfl, m, _, _, _, rfl, rfl, SqL.of upd_same, at_of (j := j) (by omega) hy, _, _, rfl, rfl, ?_⟩⟩
      exact q _ _ (by omega) (by omega) (b1.trans ((same_but (same_new hl _)).trans (b2.trans (same_but (same_new hm _))))) (p2.same (same_new hm _))
def spDeed : Sp := fun vs H Q _ => ∃ (p : Addr), vs = [.ref p] ∧ PotAt H p ∧ ∀ (a : Addr) (d : Dd) H', But p H H' → PotAt H' p → H' a = some (.tup d.vs) → d.In (10 ^ 30) → d.Ok → Q (.ref a) H'
theorem k__law_deed (D : Df K mg "_law_deed" s__law_deed ["_law_pot_here"]) (D__law_draw : Dn P w K mg base 1 "_law_draw" ["_law_pot_here", "_law_many"] spTake) (D__law_number : Dn P w K mg base 3 "_law_number" ["_law_pot_here"] spNumber) : Dn P w K mg base 4 "_law_deed" ["_law_pot_here"] spDeed := by
  refine D.ok fun f fd F => okG0 F sc__law_deed (fun vs H Q E h => ?_) (fun cdv A outer s H vs Q E hr h => ⟨_, (pss_cons (ps_set (i := 1) sc__law_deed.nd rfl (Or.inl rfl) (pe_cD D__law_draw (hr.less (by decide)) rfl (pa_cons (pv 0) (pa_cons pe_int pa_nil))))
    (pss_cons (ps_set (i := 2) sc__law_deed.nd rfl (Or.inl rfl) (pe_cD D__law_number (hr.less (by decide)) rfl (pa_cons (pv 0) pa_nil)))
    (pss_cons (ps_set (i := 3) sc__law_deed.nd rfl (Or.inl rfl) (pe_cD D__law_number (hr.less (by decide)) rfl (pa_cons (pv 0) pa_nil)))
    (pss_cons (ps_set (i := 4) sc__law_deed.nd rfl (Or.inl rfl) (pe_cD D__law_number (hr.less (by decide)) rfl (pa_cons (pv 0) pa_nil)))
    (pss_cons (ps_if (pt_cmpR op_lt (pv 1) pe_int (nomark _))
      (pss_one (ps_ret (pe_tup (pa_cons (pv 2) (pa_cons pe_non (pa_cons pe_non pa_nil))))))
      pss_nil)
    (pss_cons (ps_if (PW.pt (pw_or (pt_cmpR op_eq (pv 1) pe_int (nomark _)) (pw_or1 (pt_cmpR op_eq (pv 3) (pv 4) (nomark _)))))
      (pss_one (ps_ret (pe_tup (pa_cons pe_int (pa_cons (pv 3) (pa_cons (pv 3) pa_nil))))))
      pss_nil)
    (pss_cons (ps_if (pt_cmpR op_eq (pv 1) pe_int (nomark _))
      (pss_one (ps_ret (pe_tup (pa_cons (pv 2) (pa_cons (pv 3) (pa_cons pe_non pa_nil))))))
      pss_nil)
    (pss_cons (ps_if (pt_cmpR op_eq (pv 1) pe_int (nomark _))
      (pss_one (ps_ret (pe_tup (pa_cons (pv 2) (pa_cons pe_non (pa_cons (pv 3) pa_nil))))))
      pss_nil)
    (pss_one (ps_ret (pe_tup (pa_cons (pv 2) (pa_cons (pe_callB (call_min2 rfl) (by rfl) B.min_ (by decide +kernel) (pa_cons (pv 3) (pa_cons (pv 4) pa_nil))) (pa_cons (pe_callB (call_max2 rfl) (by rfl) B.max_ (by decide +kernel) (pa_cons (pv 3) (pa_cons (pv 4) pa_nil))) pa_nil)))))))))))))), ?_⟩)
  · obtain ⟨p, rfl, _⟩ := h; rfl
  · obtain ⟨p, rfl, hp, q⟩ := h
    try walk_at "go"
    intro ch H1 d0 d6 b1 p1
    try walk_at "go"
    intro n H2 n0 n1 b2 p2
    try walk_at "go"
    intro one H3 o0 o1 b3 p3
    try walk_at "go"
    intro other H4 r0 r1 b4 p4
    have b14 : But p H H4 := b1.trans (b2.trans (b3.trans b4))
    have fin : ∀ (d : Dd) (a : Addr) H', Same H4 H' → H' a = some (.tup d.vs) → d.In (10 ^ 30) → d.Ok → Q (.ref a) H' := fun d a H' S ha hi ho => q a d _ (b14.trans (same_but S)) (p4.same S) ha hi ho
    try walk_at "go"
    refine ite2 (fun c => ?_) (fun c => ?_)
    · try walk_at "go"
      intro A hA
      generalize eH5 : upd _ A _ = H5
      have SH5 := newS eH5 hA
      have oA := newO eH5
      exact fin ⟨n, none, none⟩ A H5 SH5 oA (in_mk (by omega) (by omega) in_none in_none) (fun _ _ h => nomatch h)
    try walk_at "go"
    have set_ : ∀ A H', Same H4 H' → H' A = some (.tup [.int 0, .int one, .int one]) → Q (.ref A) H' := fun A H' S oA => fin ⟨0, some one, some one⟩ A H' S oA (in_mk (by decide) (by decide) (in_some (by omega) (by omega)) (in_some (by omega) (by omega))) fun l h e1 e2 => by cases e1; cases e2; exact .inr ⟨rfl, rfl⟩
    refine ite2 (fun c2 => ?_) (fun c2 => ?_)
    · try walk_at "go"
      intro A hA
      generalize eH5 : upd _ A _ = H5
      have SH5 := newS eH5 hA
      have oA := newO eH5
      exact set_ A H5 SH5 oA
    try walk_at "go"
    refine ite2 (fun c3 => ?_) (fun c3 => ?_)
    · try walk_at "go"
      intro A hA
      generalize eH5 : upd _ A _ = H5
      have SH5 := newS eH5 hA
      have oA := newO eH5
      exact set_ A H5 SH5 oA
    have c3' : one ≠ other := fun z => c3 (decide_eq_true (congrArg V.int z))
    try walk_at "go"
    refine ite2 (fun c4 => ?_) (fun c4 => ?_)
    · try walk_at "go"
      intro A hA
      generalize eH5 : upd _ A _ = H5
      have SH5 := newS eH5 hA
      have oA := newO eH5
      exact fin ⟨n, some one, none⟩ A H5 SH5 oA (in_mk (by omega) (by omega) (in_some (by omega) (by omega)) in_none) (fun _ _ _ h => nomatch h)
    try walk_at "go"
    refine ite2 (fun c5 => ?_) (fun c5 => ?_)
    · try walk_at "go"
      intro A hA
      generalize eH5 : upd _ A _ = H5
      have SH5 := newS eH5 hA
      have oA := newO eH5
      exact fin ⟨n, none, some one⟩ A H5 SH5 oA (in_mk (by omega) (by omega) in_none (in_some (by omega) (by omega))) (fun _ _ h => nomatch h)
    try walk_at "go"
    intro A hA
    generalize eH5 : upd _ A _ = H5
    have SH5 := newS eH5 hA
    have oA := newO eH5
    refine fin ⟨n, some _, some _⟩ A H5 SH5 oA (in_mk (by omega) (by omega) (in_some ?_ ?_) (in_some ?_ ?_)) ?_
    · split <;> omega
    · split <;> omega
    · split <;> omega
    · split <;> omega
    · intro l h e1 e2
      cases e1; cases e2
      left
      split <;> split <;> omega
def spTimes : Sp := fun vs H Q _ => ∃ (p : Addr), vs = [.ref p] ∧ PotAt H p ∧ ∀ (n : Nat) H', n ≤ 10 ^ 29 → But p H H' → PotAt H' p → Q (.int n) H'
theorem k__law_times (D : Df K mg "_law_times" s__law_times ["_law_pot_here"]) (D__law_draw : Dn P w K mg base 1 "_law_draw" ["_law_pot_here", "_law_many"] spTake) (D__law_far : Dn P w K mg base 2 "_law_far" ["_law_pot_here"] spFar) : Dn P w K mg base 3 "_law_times" ["_law_pot_here"] spTimes := by
  refine D.ok fun f fd F => okG0 F sc__law_times (fun vs H Q E h => ?_) (fun cdv A outer s H vs Q E hr h => ⟨_, (pss_cons (ps_if (pt_cmpR op_eq (pe_cD D__law_draw (hr.less (by decide)) rfl (pa_cons (pv 0) (pa_cons pe_int pa_nil))) pe_int (nomark _))
      (pss_one (ps_ret (pe_cD D__law_draw (hr.less (by decide)) rfl (pa_cons (pv 0) (pa_cons pe_int pa_nil)))))
      pss_nil)
    (pss_one (ps_ret (pe_op op_mod (pe_cD D__law_far (hr.less (by decide)) rfl (pa_cons (pv 0) pa_nil)) (pe_op op_pow pe_int pe_int))))), ?_⟩)
  · obtain ⟨p, rfl, _⟩ := h; rfl
  · obtain ⟨p, rfl, hp, q⟩ := h
    have cp : CPow 10 29 := ⟨by decide, by decide, by decide⟩
    try walk_at "go"
    intro ch H1 d0 d6 b1 p1
    try walk_at "go"
    refine ite2 (fun c => ?_) (fun c => ?_)
    · try walk_at "go"
      intro n H2 n0 n1 b2 p2
      obtain ⟨m, rfl⟩ : ∃ m : Nat, n = (m : Int) := ⟨n.toNat, by omega⟩
      exact q m H2 (Nat.le_trans (m := 40) (by omega) (by decide)) (b1.trans b2) p2
    · try walk_at "go"
      intro f H2 f0 f1 b2 p2
      try walk_at "go"
      have g1 := Int.emod_nonneg f (by decide : (10 ^ Int.toNat 29 : Int) ≠ 0)
      have g2 := Int.emod_lt_of_pos f (by decide : (0 : Int) < 10 ^ Int.toNat 29)
      obtain ⟨m, hm⟩ : ∃ m : Nat, f % (10 ^ Int.toNat 29) = (m : Int) := ⟨(f % (10 ^ Int.toNat 29)).toNat, by omega⟩
      rw [hm] at g2
      have g3 : m ≤ 10 ^ 29 := by have : (10 ^ Int.toNat 29 : Int) = ((10 ^ 29 : Nat) : Int) := by decide
                                  omega
      exact (congrArg (fun z => Q (.int z) H2) hm.symm).mp (q m H2 g3 (b1.trans b2) p2)
/-- the stepper stops here -/
structure Kept (p : Prop) : Prop where
  ex : p
omit B in
theorem none_back {H H' : Hp} {a : Addr} (S : Same H H') (h : H' a = none) : H a = none := by
  cases e : H a with
  | none => rfl
  | some o =>
    rw [S _ _ e] at h
    cases h
omit B in
theorem But.fr {p E : Addr} {H H1 : Hp} {o : HO} (b : But p H H1) (hE : H E = none) : But p H (L2.upd H1 E o) := fun x u n h => by rw [upd_ne (ne_of_none h hE)]; exact b x u n h
omit B in
theorem but_fr {p E : Addr} {H H1 H2 : Hp} (b : But p H H1) (hE : H E = none) (c : But E H1 H2) : But p H H2 := fun x u n h => c _ _ (ne_of_none h hE) (b x u n h)
omit B in
theorem pot_keep {p : Addr} {H H' : Hp} (b : But p H H') (hp : PotAt H p) : ∀ t xs, H t = some (.tup xs) → H' t = some (.tup xs) := fun t xs e => by
  obtain ⟨_, _, h1, _⟩ := hp
  exact b _ _ (ne_of e h1 (by intro z; cases z)) e
omit B in
theorem PotAt.fr {H : Hp} {p E : Addr} {o : HO} (h : PotAt H p) (n : p ≠ E) : PotAt (L2.upd H E o) p := by
  obtain ⟨a, b, h1, h2⟩ := h
  exact ⟨a, b, by rw [upd_ne n]; exact h1, h2⟩
/-! SPLIT -/
omit B in
theorem da_at {K : PySem.W.Frag} {H H' : Hp} {a : Addr} {d : Dd} (h : Da K H a d) (e : Same H H') : Da K H' a d := h.same e
omit B in
theorem add_small {d : Dd} {b : Int} (h : d.In b) (hb : b ≤ 10 ^ 90) : d.add.natAbs < 2 ^ 10000 := by
  have h1 := h.1
  have h2 := h.2.1
  have h3 : d.add.natAbs ≤ 10 ^ 90 := by omega
  exact Nat.lt_of_le_of_lt h3 (by decide)
def spToldD (K : PySem.W.Frag) : Sp := fun vs H Q _ => ∃ (p : Addr), vs = [.ref p] ∧ PotAt H p ∧ ∀ (a : Addr) (d : Dd) H', But p H H' → PotAt H' p → Da K H' a d → Q (.ref a) H'
theorem k__law_told_deed (D : Df K mg "_law_told_deed" s__law_told_deed ["_law_pot_here"]) (D__law_draw : Dn P w K mg base 1 "_law_draw" ["_law_pot_here", "_law_many"] spTake) (D__law_deed : Dn P w K mg base 4 "_law_deed" ["_law_pot_here"] spDeed) (D__law_times : Dn P w K mg base 3 "_law_times" ["_law_pot_here"] spTimes) (D_again : Dn P w K mg base 5 "again" ["deed", "many"] (spAgain K)) (D_is_deed : Dn P w K mg base 3 "is_deed" ["thing"] (spIsDeed K)) : Dn P w K mg base 6 "_law_told_deed" ["_law_pot_here"] (spToldD K) := by
  refine D.ok fun f fd F => okG0 F sc__law_told_deed (fun vs H Q E h => ?_) (fun cdv A outer s H vs Q E hr h => ⟨_, (pss_cons (ps_set (i := 1) sc__law_told_deed.nd rfl (Or.inl rfl) (pe_cD D__law_draw (hr.less (by decide)) rfl (pa_cons (pv 0) (pa_cons pe_int pa_nil))))
    (pss_cons (ps_set (i := 2) sc__law_told_deed.nd rfl (Or.inl rfl) (pe_cD D_again (hr.less (by decide)) rfl (pa_cons (pe_cD D__law_deed (hr.less (by decide)) rfl (pa_cons (pv 0) pa_nil)) (pa_cons (pe_cD D__law_times (hr.less (by decide)) rfl (pa_cons (pv 0) pa_nil)) pa_nil))))
    (C8.pss_cut (ps_if (PW.pt (pw_and (pt_cmpR op_eq (pv 1) pe_int (nomark _)) (pw_and1 (pt_cmpR op_isBl (pe_cD D_is_deed (hr.less (by decide)) rfl (pa_cons (pv 2) pa_nil)) pe_bl (nomark _)))))
      (pss_one (ps_set (i := 2) sc__law_told_deed.nd rfl (Or.inl rfl) (pe_cD D_again (hr.less (by decide)) rfl (pa_cons (pv 2) (pa_cons (pe_cD D__law_times (hr.less (by decide)) rfl (pa_cons (pv 0) pa_nil)) pa_nil)))))
      pss_nil)
    (pss_one (ps_ret (pv 2)))))), ?_⟩)
  · obtain ⟨p, rfl, _⟩ := h; rfl
  · obtain ⟨p, rfl, hp, q⟩ := h
    try walk_at "go"
    intro tw H1 t0 t1 b1 p1
    try walk_at "go"
    intro a d H2 b2 p2 ha hi ho
    try walk_at "go"
    intro n H3 hn b3 p3
    have ha3 : H3 a = some (.tup d.vs) := b3 _ _ (fun z => by obtain ⟨_, _, h, _⟩ := p2; rw [← z, ha] at h; cases h) ha
    have hd : DeedArg K H3 a d := ⟨.base (.tup ha3), SqT.of ha3, ho⟩
    have s1 := add_small hi (by decide)
    have n2 : n < 2 ^ 10000 := Nat.lt_of_le_of_lt hn (by decide)
    have hi1 : ∀ m : Nat, m ≤ 10 ^ 29 → (pw d m).In (10 ^ 59) := fun m hm => In.le (pw_in hi (by decide) m) (by have : (m : Int) ≤ 10 ^ 29 := (by omega); omega)
    have B3 := b1.trans (b2.trans b3)
    refine ⟨a, d, n, rfl, hd, s1, n2, fun r H4 S4 hr => ?_⟩
    have p4 := p3.same S4
    have i4 := hi1 n hn
    have o4 := pw_ok ho n
    have hd4 : DeedArg K H4 r (pw d n) := ⟨hr.ty, hr.sq, o4⟩
    have B4 := B3.trans (same_but S4)
    refine ⟨fun σ H' => Kept (∃ (r : Addr) (e : Dd), σ = [some (.ref p), some (.int tw), some (.ref r)] ∧ But p H H' ∧ PotAt H' p ∧ Da K H' r e), ?_, ?_⟩
    · try walk_at "go"
      refine ite2 (fun c => ?_) (fun c => ?_)
      · try walk_at "go"
        intro m H5 hm b5 p5
        have hr5 : TupAt K H5 r (pw d n).vs := by
          obtain ⟨_, _, h, _⟩ := p4
          exact hr.but b5 h
        have hd5 : DeedArg K H5 r (pw d n) := ⟨hr5.ty, hr5.sq, o4⟩
        refine ⟨r, _, m, rfl, hd5, add_small i4 (by decide), Nat.lt_of_le_of_lt hm (by decide), fun r2 H6 S6 hr6 => ?_⟩
        exact ⟨⟨r2, _, rfl, B4.trans (b5.trans (same_but S6)), p5.same S6, hr6, In.le (pw_in i4 (by decide) m) (by have : (m : Int) ≤ 10 ^ 29 := (by omega); omega), pw_ok o4 m⟩⟩
      · try walk_at "go"
        exact ⟨⟨r, _, rfl, B4, p4, hr, In.le i4 (by decide), o4⟩⟩
    rintro _ H5 ⟨r, e, rfl, b5, p5, he⟩
    try walk_at "go"
    exact q r e H5 b5 p5 he
def spTog (K : PySem.W.Frag) : Sp := fun vs H Q _ => ∃ (b k : Addr) (bs : List Int) (as : List Ak), vs = [.ref b, .ref k] ∧ BoardAt H b bs ∧ AsksAt K H k as bs.length ∧
  ∀ (r T1 T2 : Addr) (p1 p2 : List (Addr × Dd)) (H' : Hp), Same H H' → H' r = some (.tup [.ref T1, .ref T2]) → H' T1 = some (.tup (p1.map fun x => V.ref x.1)) → H' T2 = some (.tup (p2.map fun x => V.ref x.1)) → dsOf p1 = (madeOf as bs.length).2 → dsOf p2 = (madeOf as bs.length).1 → RefsAt K H' p1 → RefsAt K H' p2 → Q (.ref r) H'
theorem k__law_together (D : Df K mg "_law_together" s__law_together ["_law_board", "_law_asks"]) (D__law_behind : Dn P w K mg base 2 "_law_behind" ["_law_one", "_law_other"] (spBehind K)) : Dn P w K mg base 8 "_law_together" ["_law_board", "_law_asks"] (spTog K) := by
  refine D.ok fun f fd F => okG0 F sc__law_together (fun vs H Q E h => ?_) (fun cdv A outer s H vs Q E hr h => ⟨_, (pss_cons (ps_setLc (i := 2) (own := [("_law_value", 7)]) (g := gName 7) (tt := tYes) rfl sc__law_together.nd rfl rfl (sw_true rfl rfl rfl (by decide +kernel)) (kk (K := K) (F := fun K => iTup K _) (P := PI _ _ _) (pi_tup (pv 0))) (blkOk_by (own := [("_law_value", 7)]) (N := ["_law_board", "_law_asks", "_law_made", "_law_ahead", "_law_hand", "_law_box", "_law_deed_here", "_law_value"]) (sc := defScope s__law_together) (by decide +kernel)) (fun _ _ _ _ _ => (pg_name (i := 7) sc__law_together.nd rfl (Or.inl rfl))) (fun _ _ _ _ _ => pts_nil) (fun _ _ _ _ _ => (pe_tup (pa_cons pe_int (pa_cons pe_non (pa_cons pe_non pa_nil))))))
    (pss_cons (ps_set (i := 3) sc__law_together.nd rfl (Or.inl rfl) (pe_lst pa_nil))
    (pss_cons (ps_for PassesOwn.never rfl (kk (K := K) (F := fun K => iTup K _) (P := PI _ _ _) (pi_tup (pv 1))) (kk (K := K) (F := fun K => gTup K 3 _) (P := PG _ _) (pg_tup rfl (pgs_cons (pg_name (i := 4) sc__law_together.nd rfl (Or.inl rfl)) (pgs_cons (pg_name (i := 5) sc__law_together.nd rfl (Or.inl rfl)) (pgs_cons (pg_name (i := 6) sc__law_together.nd rfl (Or.inl rfl)) pgs_nil)))))
      (pss_cons (ps_expr (kk (K := K) (F := fun K => tBM K "list" _ _ _) (P := PE _ _) (pe_bm PySem.F.plainAttrs_list PySem.F.slot_list_append PySem.F.type_list_append mt_append (pv 3) (pa_cons (pe_ix (kk (K := K) (F := rIxL) (P := IxR _) ix_list) (pv 2) (pv 5) (fun _ _ => rfl)) pa_nil))))
      (pss_one (ps_asg (pe_cD D__law_behind (hr.less (by decide)) rfl (pa_cons (pe_ix (kk (K := K) (F := rIxL) (P := IxR _) ix_list) (pv 2) (pv 5) (fun _ _ => rfl)) (pa_cons (pv 6) pa_nil))) (pg_sub (pv 2) (pv 5) set_list)))))
    (pss_one (ps_ret (pe_tup (pa_cons (pe_callTy (tupOfK (K := K)) (by rfl) B.tuple_ (by decide +kernel) (pa_cons (pv 2) pa_nil)) (pa_cons (pe_callTy (tupOfK (K := K)) (by rfl) B.tuple_ (by decide +kernel) (pa_cons (pv 3) pa_nil)) pa_nil)))))))), ?_⟩)
  · obtain ⟨b, k, bs, as, rfl, _⟩ := h; rfl
  · obtain ⟨b, k, bs, as, rfl, hb, hk, q⟩ := h
    have hbT := hb.1
    try walk_at "go"
    intro L hL
    refine lc_tup (K := K) (a := b) (xs := bs.map V.int) (fun i H' => Kept (∃ ps : List (Addr × Dd), Same H H' ∧ H' L = some (.lst (ps.map fun x => V.ref x.1)) ∧ ps.length = i ∧ dsOf ps = List.replicate i look ∧ RefsAt K H' ps)) ⟨⟨[], same_new hL _, upd_same, rfl, rfl, fun x hx => nomatch hx⟩⟩ (fun i H' _ h => by obtain ⟨_, S, _⟩ := h.ex; exact SqT.of (S _ _ hb.1)) ?_ ?_
    · rintro i x H2 hx ⟨ps, S2, oL, lp, ds, rp⟩
      have il := (List.getElem?_eq_some_iff.mp hx).1
      rw [List.length_map] at il
      have l16 := hb.2.2
      have ll : (ps.map fun x => V.ref x.1).length ≤ 16 := by rw [List.length_map]; omega
      rw [List.getElem?_map] at hx
      obtain ⟨z, _, rfl⟩ := Option.map_eq_some_iff.mp hx
      try walk_at "go"
      intro U hU
      generalize eH3 : upd _ U _ = H3
      have SH3 := newS eH3 hU
      have oU := newO eH3
      have oL3 := SH3 _ _ oL
      try walk_at "go"
      refine ⟨⟨ps ++ [(U, look)], but_same hL (S2.trans SH3) But.upd, by rw [upd_same, List.map_append] <;> rfl, by rw [List.length_append, lp] <;> rfl, by unfold dsOf at ds ⊢; rw [List.map_append, ds, List.replicate_succ'] <;> rfl, fun y hy => ?_⟩⟩
      refine TupAt.but But.upd oL3 ?_
      rcases List.mem_append.mp hy with hy | hy
      · exact (rp y hy).same SH3
      · cases List.mem_singleton.mp hy
        exact .inl oU
    rintro H2 ⟨ps, S2, oL, lp, ds, rp⟩
    rw [List.length_map] at lp ds
    try walk_at "go"
    intro M hM
    generalize eH3 : upd _ M _ = H3
    have SH3 := newS eH3 hM
    have oM := newO eH3
    have oL3 := SH3 _ _ oL
    have nLM : L ≠ M := ne_of_none oL hM
    have S3 := S2.trans SH3
    have hk1 := hk.same S3
    have hkT := hk1.1
    try walk_at "go"
    refine for_tup (K := K) (a := k) (xs := as.map fun x => .ref x.a) (fun i σ H4 => Kept (∃ (v3 v4 v5 v6 : Option V), σ = [some (.ref b), some (.ref k), some (.ref L), some (.ref M), v3, v4, v5, v6] ∧ Same H H4 ∧ MadeAt K H4 L M (madeOf (as.take i) bs.length)))
      ⟨⟨none, none, none, none, rfl, S3, MadeAt.new oL3 oM (rp.same SH3) ds⟩⟩ (fun i σ H4 _ h => by obtain ⟨_, _, _, _, _, h2, _⟩ := h.ex; exact SqT.of (h2 _ _ hk.1)) ?_ ?_
    · rintro i y σ H4 hi ⟨v3, v4, v5, v6, rfl, S4, hm⟩
      rw [List.getElem?_map] at hi
      obtain ⟨x, hx, rfl⟩ := Option.map_eq_some_iff.mp hi
      have hx1 := (hk.2.2 x (List.mem_of_getElem? hx)).same S4
      have hil : i < as.length := (List.getElem?_eq_some_iff.mp hx).1
      have h40 := hk.2.1
      rw [made_snoc hx]
      obtain ⟨l1, l2⟩ := made_len (as := as.take i) (n := bs.length)
      have l1' : (madeOf (as.take i) bs.length).1.length ≤ 40 := by rw [l1, List.length_take]; omega
      generalize madeOf (as.take i) bs.length = st at hm l2 l1'
      obtain ⟨y, ey, hy, hyM, fin⟩ := hm.turn (x := x) (by rw [l2]; exact hx1.2.2.2.2)
      refine ⟨x.a, _, rfl, SqT.of hx1.1, rfl, _, _, rfl, _, _, rfl, _, _, rfl, rfl, ?_⟩
      obtain ⟨ps1, ps2, hM4, hL4, e1, e2, r1, r2⟩ := id hm
      refine ⟨_, rfl, .inl ⟨rfl, _, SqL.of hM4⟩, _, rfl, _, rfl, L, _, _, _, rfl, rfl, SqL.of hL4, at_of (j := x.box) rfl (ey _ hL4), M, _, _, rfl, rfl, hM4, small1000 (by rw [List.length_map, dsOf_len e1]; omega), ?_⟩
      have b1 : But M H4 (upd H4 M (.lst (ps1.map (fun x => V.ref x.1) ++ [V.ref y.1]))) := But.upd
      have hL5 := b1 _ _ nLM hL4
      refine ⟨_, rfl, _, rfl, L, _, _, _, rfl, rfl, SqL.of hL5, at_of (j := x.box) rfl (ey _ hL4), _, rfl, y.1, x.da, y.2, x.d, rfl, but_tup b1 hM4 hy, but_tup b1 hM4 hx1.2.1.1.sq, fun c H5 S5 _ hc => ?_⟩
      have hL6 := S5 _ _ hL5
      refine ⟨_, rfl, _, rfl, L, _, _, _, rfl, rfl, hL6, ixn (by rw [List.length_map, dsOf_len e2, l2]; exact hx1.2.2.2.2), ?_⟩
      refine ⟨⟨_, _, _, _, rfl, fun a o ha => ?_, ?_⟩⟩
      · have hM1 : H M = none := S2.free hM
        have hL1 : H L = none := hL
        rw [upd_ne (ne_of_none ha hL1)]
        exact S5 _ _ (by rw [upd_ne (ne_of_none ha hM1)]; exact S4 _ _ ha)
      · exact fin ps1 ps2 _ c nLM e1 e2 r1 r2 hM4 S5 hL6 hc
    · rintro σ H4 ⟨v3, v4, v5, v6, rfl, S4, hm⟩
      rw [List.length_map, List.take_length] at hm
      obtain ⟨ps1, ps2, hM4, hL4, e1, e2, r1, r2⟩ := hm
      try walk_at "go"
      intro T1 hT1
      generalize eH5 : upd _ T1 _ = H5
      have SH5 := newS eH5 hT1
      have oT1 := newO eH5
      have hM5 := SH5 _ _ hM4
      try walk_at "go"
      intro T2 hT2
      generalize eH6 : upd _ T2 _ = H6
      have SH6 := newS eH6 hT2
      have oT2 := newO eH6
      try walk_at "go"
      intro R hR
      generalize eH7 : upd _ R _ = H7
      have SH7 := newS eH7 hR
      have oR := newO eH7
      have S47 := SH5.trans (SH6.trans SH7)
      exact q R T1 T2 ps2 ps1 H7 (S4.trans S47) oR ((SH6.trans SH7) _ _ oT1) (SH7 _ _ oT2) e2 e1 (r2.same S47) (r1.same S47)
theorem k__law_played (D : Df K mg "_law_played" s__law_played ["_law_board", "_law_asks"]) (D__law_done : Dn P w K mg base 1 "_law_done" ["_law_deed_here", "_law_value"] (spPut K)) : Dn P w K mg base 7 "_law_played" ["_law_board", "_law_asks"] (spPlay K) := by
  refine D.ok fun f fd F => okG0 F sc__law_played (fun vs H Q E h => ?_) (fun cdv A outer s H vs Q E hr h => ⟨_, (pss_cons (ps_set (i := 2) sc__law_played.nd rfl (Or.inl rfl) (pe_callTy (lstOfK (K := K)) (by rfl) B.list_ (by decide +kernel) (pa_cons (pv 0) pa_nil)))
    (pss_cons (ps_set (i := 3) sc__law_played.nd rfl (Or.inl rfl) (pe_lst pa_nil))
    (pss_cons (ps_for PassesOwn.never rfl (kk (K := K) (F := fun K => iTup K _) (P := PI _ _ _) (pi_tup (pv 1))) (kk (K := K) (F := fun K => gTup K 3 _) (P := PG _ _) (pg_tup rfl (pgs_cons (pg_name (i := 4) sc__law_played.nd rfl (Or.inl rfl)) (pgs_cons (pg_name (i := 5) sc__law_played.nd rfl (Or.inl rfl)) (pgs_cons (pg_name (i := 6) sc__law_played.nd rfl (Or.inl rfl)) pgs_nil)))))
      (pss_cons (ps_expr (kk (K := K) (F := fun K => tBM K "list" _ _ _) (P := PE _ _) (pe_bm PySem.F.plainAttrs_list PySem.F.slot_list_append PySem.F.type_list_append mt_append (pv 3) (pa_cons (pe_ix (kk (K := K) (F := rIxL) (P := IxR _) ix_list) (pv 2) (pv 5) (fun _ _ => rfl)) pa_nil))))
      (pss_one (ps_asg (pe_cD D__law_done (hr.less (by decide)) rfl (pa_cons (pv 6) (pa_cons (pe_ix (kk (K := K) (F := rIxL) (P := IxR _) ix_list) (pv 2) (pv 5) (fun _ _ => rfl)) pa_nil))) (pg_sub (pv 2) (pv 5) set_list)))))
    (pss_one (ps_ret (pe_tup (pa_cons (pe_callTy (tupOfK (K := K)) (by rfl) B.tuple_ (by decide +kernel) (pa_cons (pv 3) pa_nil)) (pa_cons (pe_callTy (tupOfK (K := K)) (by rfl) B.tuple_ (by decide +kernel) (pa_cons (pv 2) pa_nil)) pa_nil)))))))), ?_⟩)
  · obtain ⟨b, k, bs, as, rfl, _⟩ := h; rfl
  · obtain ⟨b, k, bs, as, rfl, hb, hk, q⟩ := h
    obtain ⟨H1, e1⟩ : ∃ H1, H1 = H := ⟨H, rfl⟩
    have S0 : Same H H1 := by rw [e1]; exact Same.refl _
    have hb1 := hb.same S0
    have hk1 := hk.same S0
    rw [← e1]
    refine ⟨_, rfl, b, _, rfl, .inr (SqT.of hb1.1), fun L hL => ⟨sz, fun M hM => ?_⟩⟩
    have nLM : L ≠ M := ne_of_none upd_same hM
    have hM0 := (same_new hL (.lst (bs.map V.int))).free hM
    refine ⟨_, rfl, k, rfl, ⟨_, SqT.of ((same_new hM _) _ _ ((same_new hL _) _ _ hk1.1))⟩, ?_⟩
    refine for_tup (K := K) (a := k) (xs := as.map fun x => .ref x.a) (fun i σ H2 => ∃ v4 v5 v6 : Option V, σ = [some (.ref b), some (.ref k), some (.ref L), some (.ref M), v4, v5, v6] ∧ Same H1 H2 ∧ H2 L = some (.lst ((play (as.take i) bs).2.map V.int)) ∧ H2 M = some (.lst ((play (as.take i) bs).1.map V.int)))
      ⟨none, none, none, rfl, (same_new hL _).trans (same_new hM _), by rw [upd_ne nLM, upd_same] <;> rfl, upd_same⟩ (fun i σ H2 _ h => by obtain ⟨_, _, _, _, h2, _⟩ := h; exact SqT.of (h2 _ _ hk1.1)) ?_ ?_
    · rintro i y σ H2 hi ⟨v4, v5, v6, rfl, S2, hL2, hM2⟩
      rw [List.getElem?_map] at hi
      obtain ⟨x, hx, rfl⟩ := Option.map_eq_some_iff.mp hi
      have hil : i < as.length := (List.getElem?_eq_some_iff.mp hx).1
      obtain ⟨l1, l2⟩ := play_len (as := as.take i) (bs := bs)
      rw [play_snoc hx]
      generalize play (as.take i) bs = st at hL2 hM2 l1 l2
      have hx1 := (hk1.2.2 x (List.mem_of_getElem? hx)).same S2
      have hbx : x.box < st.2.length := by rw [l2]; exact hx1.2.2.2.2
      have h40 := hk.2.1
      have l1' : st.1.length ≤ 40 := by rw [l1, List.length_take]; omega
      refine ⟨x.a, _, rfl, SqT.of hx1.1, rfl, _, _, rfl, _, _, rfl, _, _, rfl, rfl, ?_⟩
      refine ⟨_, rfl, .inl ⟨rfl, _, SqL.of hM2⟩, _, rfl, _, rfl, L, _, _, _, rfl, rfl, SqL.of hL2, at_of (j := x.box) rfl (map_getD hbx), M, _, _, rfl, rfl, hM2, small1000 (by rw [List.length_map]; omega), ?_⟩
      have hL3 : (upd H2 M (.lst (st.1.map V.int ++ [.int (st.2.getD x.box 0)]))) L = some (.lst (st.2.map V.int)) := by rw [upd_ne nLM]; exact hL2
      refine ⟨_, rfl, _, rfl, _, rfl, L, _, _, _, rfl, rfl, SqL.of hL3, at_of (j := x.box) rfl (map_getD hbx), x.da, x.d, _, rfl, but_tup But.upd hM2 hx1.2.1.1.sq, ?_⟩
      refine ⟨_, rfl, _, rfl, L, _, _, _, rfl, rfl, hL3, ixn (by rw [List.length_map]; exact hbx), ?_⟩
      refine ⟨_, _, _, rfl, ?_, ?_, ?_⟩
      · exact fun a o ha => by rw [upd_ne (ne_of_none ha hL), upd_ne (ne_of_none ha hM0)]; exact S2 _ _ ha
      · rw [upd_same, ← List.map_set] <;> rfl
      · rw [upd_ne nLM.symm, upd_same, show (stepP st x).1 = st.1 ++ [st.2.getD x.box 0] from rfl, List.map_append] <;> rfl
    · rintro σ H2 ⟨v4, v5, v6, rfl, S2, hL2, hM2⟩
      rw [List.length_map, List.take_length] at hL2 hM2
      refine ⟨_, rfl, M, _, rfl, .inl ⟨SqL.of hM2, fun t1 ht1 => ?_⟩⟩
      have S3 := same_new ht1 (.tup ((play as bs).1.map V.int))
      refine ⟨_, rfl, L, _, rfl, .inl ⟨SqL.of (S3 _ _ hL2), fun t2 ht2 => ⟨sz, fun r hr => ?_⟩⟩⟩
      have S4 := same_new ht2 (.tup ((play as bs).2.map V.int))
      have S5 := same_new hr (.tup [.ref t1, .ref t2])
      exact q r t1 t2 _ (S0.trans (S2.trans (S3.trans (S4.trans S5)))) upd_same (S5 _ _ (S4 _ _ upd_same)) (S5 _ _ upd_same)
def spFR (K : PySem.W.Frag) : Sp := fun vs H Q _ => ∃ (k : Addr) (ps : List (Addr × Dd)) (v : V) (t : Tr) (x : Int), vs = [.ref k, v, .int x] ∧ DsAt K H k ps ∧ TrAt H v t ∧ IsRow t 0 ∧ t.cnt = ps.length ∧ ps.length ≤ 8 ∧ -(10 ^ 92) ≤ x ∧ x ≤ 10 ^ 92 ∧ ∀ H', Same H H' → Q (.bl true) H'
theorem k__law_folds_right (D : Df K mg "_law_folds_right" s__law_folds_right ["_law_deeds", "_law_tree_here", "_law_value"]) (D__law_behind : Dn P w K mg base 2 "_law_behind" ["_law_one", "_law_other"] (spBehind K)) (D__law_done : Dn P w K mg base 1 "_law_done" ["_law_deed_here", "_law_value"] (spPut K)) (D_folded : Dn P w K mg base 45 "folded" ["deeds", "tree"] (spFold K)) (D_shared_out : Dn P w K mg base 46 "shared_out" ["deeds", "tree", "value"] (spShare K)) : Dn P w K mg base 47 "_law_folds_right" ["_law_deeds", "_law_tree_here", "_law_value"] (spFR K) := by
  refine D.ok fun f fd F => okG0 F sc__law_folds_right (fun vs H Q E h => ?_) (fun cdv A outer s H vs Q E hr h => ⟨_, (pss_cons (ps_set (i := 3) sc__law_folds_right.nd rfl (Or.inl rfl) (pe_tup (pa_cons pe_int (pa_cons pe_non (pa_cons pe_non pa_nil)))))
    (pss_cons (ps_set (i := 4) sc__law_folds_right.nd rfl (Or.inl rfl) (pe_lst pa_nil))
    (pss_cons (ps_set (i := 5) sc__law_folds_right.nd rfl (Or.inl rfl) (pv 2))
    (pss_cons (ps_for PassesOwn.never rfl (kk (K := K) (F := fun K => iTup K _) (P := PI _ _ _) (pi_tup (pv 0))) (pg_name (i := 6) sc__law_folds_right.nd rfl (Or.inl rfl))
      (pss_cons (ps_set (i := 3) sc__law_folds_right.nd rfl (Or.inl rfl) (pe_cD D__law_behind (hr.less (by decide)) rfl (pa_cons (pv 3) (pa_cons (pv 6) pa_nil))))
      (pss_cons (ps_expr (kk (K := K) (F := fun K => tBM K "list" _ _ _) (P := PE _ _) (pe_bm PySem.F.plainAttrs_list PySem.F.slot_list_append PySem.F.type_list_append mt_append (pv 4) (pa_cons (pv 5) pa_nil))))
      (pss_one (ps_set (i := 5) sc__law_folds_right.nd rfl (Or.inl rfl) (pe_cD D__law_done (hr.less (by decide)) rfl (pa_cons (pv 6) (pa_cons (pv 5) pa_nil))))))))
    (pss_one (ps_ret (pe_and (pe_cmpR op_eq (pe_callB (reprK (K := K) hr) (by rfl) B.repr_ (by decide +kernel) (pa_cons (pe_cD D_folded (hr.less (by decide)) rfl (pa_cons (pv 0) (pa_cons (pv 1) pa_nil))) pa_nil)) (pe_callB (reprK (K := K) hr) (by rfl) B.repr_ (by decide +kernel) (pa_cons (pv 3) pa_nil)) (nomark _)) (pe_one (pe_cmpR op_eq (pe_callB (reprK (K := K) hr) (by rfl) B.repr_ (by decide +kernel) (pa_cons (pe_cD D_shared_out (hr.less (by decide)) rfl (pa_cons (pv 0) (pa_cons (pv 1) (pa_cons (pv 2) pa_nil)))) pa_nil)) (pe_callB (reprK (K := K) hr) (by rfl) B.repr_ (by decide +kernel) (pa_cons (pe_callTy (tupOfK (K := K)) (by rfl) B.tuple_ (by decide +kernel) (pa_cons (pv 4) pa_nil)) pa_nil)) (nomark _)))))))))), ?_⟩)
  · obtain ⟨k, ps, v, t, x, rfl, _⟩ := h; rfl
  · obtain ⟨k, ps, v, t, x, rfl, hk, ht, hr, hc, h8, x1, x2, q⟩ := h
    try walk_at "go"
    intro W0 hW0
    generalize eH1 : upd _ W0 _ = H1
    have SH1 := newS eH1 hW0
    have oW0 := newO eH1
    try walk_at "go"
    intro A0 hA0
    generalize eH2 : upd _ A0 _ = H2
    have SH2 := newS eH2 hA0
    have oA0 := newO eH2
    have oW0 := SH2 _ _ oW0
    have hkT := hk.1
    try walk_at "go"
    refine for_tup (K := K) (a := k) (xs := ps.map fun x => .ref x.1) (fun i σ H3 => Kept (∃ (w : Addr) (v6 : Option V), σ = [some (.ref k), some v, some (.int x), some (.ref w), some (.ref A0), some (.int (aps x ((dsOf ps).take i))), v6] ∧ Same H H3 ∧ H3 w = some (.tup (behs ((dsOf ps).take i)).vs) ∧ H3 A0 = some (.lst ((ans x ((dsOf ps).take i)).map V.int))))
      ⟨⟨W0, _, rfl, SH1.trans SH2, oW0, oA0⟩⟩ (fun i σ H3 _ h => by obtain ⟨_, _, _, h2, _⟩ := h.ex; exact SqT.of (h2 _ _ hk.1)) ?_ ?_
    · rintro i y σ H3 hi ⟨w, v6, rfl, S3, ow, oA⟩
      rw [List.getElem?_map] at hi
      obtain ⟨z, hz, rfl⟩ := Option.map_eq_some_iff.mp hi
      have hil : i < ps.length := (List.getElem?_eq_some_iff.mp hz).1
      have hzd := (hk.2.2.2 z (List.mem_of_getElem? hz)).same S3
      have hzt := hzd.1.sq
      have tk1 : (dsOf ps).take (i + 1) = (dsOf ps).take i ++ [z.2] := by unfold dsOf; rw [List.take_succ, List.getElem?_map, hz] <;> rfl
      have ok1 : Oks ((dsOf ps).take i) := fun d hd => hk.oks d (List.mem_of_mem_take hd)
      rw [tk1, behs_snoc, aps_snoc, ans_app]
      have ll : ((ans x ((dsOf ps).take i)).map V.int).length ≤ 40 := by rw [List.length_map, ans_len, List.length_take]; unfold dsOf; rw [List.length_map]; omega
      have oW := SqT.of (K := K) ow
      try walk_at "go"
      intro c H4 S4 _ hc
      have oA4 := S4 _ _ oA
      try walk_at "go"
      generalize eH5 : upd H4 A0 (HO.lst ((ans x ((dsOf ps).take i)).map V.int ++ [V.int (aps x ((dsOf ps).take i))])) = H5
      have BH5 : But A0 H4 H5 := eH5 ▸ But.upd
      have oH5 : H5 A0 = some (HO.lst ((ans x ((dsOf ps).take i)).map V.int ++ [V.int (aps x ((dsOf ps).take i))])) := eH5 ▸ upd_same
      have hz5 : SqT K H5 z.1 z.2.vs := but_tup BH5 oA4 (same_tup S4 hzt)
      try walk_at "go"
      refine ⟨⟨c, _, rfl, fun b o hb => ?_, BH5 _ _ (ne_of hc oA4 (by intro w; cases w)) hc, by rw [oH5, List.map_append] <;> rfl⟩⟩
      have hA1 : H A0 = none := SH1.free hA0
      exact BH5 _ _ (ne_of_none hb hA1) (S4 _ _ (S3 _ _ hb))
    · rintro σ H3 ⟨w, v6, rfl, S3, ow, oA⟩
      rw [List.length_map, show ps.length = (dsOf ps).length by unfold dsOf; rw [List.length_map], List.take_length] at ow oA
      have hk3 := hk.same S3
      have ht3 := ht.same S3
      have hin := hk.ins
      have ld : (dsOf ps).length = ps.length := by unfold dsOf; rw [List.length_map]
      have iB : (behs (dsOf ps)).In (10 ^ 90) := In.le (behs_in (by decide) hin) (by rw [ld]; have : (ps.length : Int) ≤ 8 := (by omega); omega)
      have iA : Wi (10 ^ 93) (ans x (dsOf ps)) := Wi.mono (ans_in (by decide) hin x1 x2 (by decide)) (by rw [ld]; have : (ps.length : Int) ≤ 8 := (by omega); omega)
      have lA : (ans x (dsOf ps)).length ≤ 8 := by rw [ans_len, ld]; exact h8
      try walk_at "go"
      intro b H4 S4 hb
      refine rep_ (pd_dp hb.sq) (pd_sh1 iB (by decide)) (q := ?_)
      have ow4 := S4 _ _ ow
      have oA4 := S4 _ _ oA
      refine ⟨_, rfl, rep_ (pd_dp (SqT.of ow4)) (pd_sh1 iB (by decide)) (q := ?_)⟩
      have hk4 := hk3.same S4
      have ht4 := ht3.same S4
      refine ⟨rfl, _, rfl, ifT (dec_self _) ?_⟩
      try walk_at "go"
      intro r H5 S5 hr
      refine rep_ (tupI_dp (SqT.of hr)) (ints_sh1 (n := 8) iA (by decide) lA) (q := ?_)
      have oA5 := S5 _ _ oA4
      try walk_at "go"
      intro U hU
      generalize eH6 : upd _ U _ = H6
      have SH6 := newS eH6 hU
      have oU := newO eH6
      refine rep_ (tupI_dp (SqT.of oU)) (ints_sh1 (n := 8) iA (by decide) lA) (q := ?_)
      refine ⟨rfl, ?_⟩
      rw [dec_self]
      exact q _ (S3.trans (S4.trans (S5.trans SH6)))
/-! SPLIT -/
omit B in
theorem bd_at {H H' : Hp} {b : Addr} {bs : List Int} (h : BoardAt H b bs) (e : Same H H') : BoardAt H' b bs := h.same e
omit B in
theorem ak_at {K : PySem.W.Frag} {H H' : Hp} {k : Addr} {as : List Ak} {n : Nat} (h : AsksAt K H k as n) (e : Same H H') : AsksAt K H' k as n := h.same e
omit B in
theorem ds_at {K : PySem.W.Frag} {H H' : Hp} {k : Addr} {ps : List (Addr × Dd)} (h : DsAt K H k ps) (e : Same H H') : DsAt K H' k ps := h.same e
local macro_rules | `(tactic| walk_at "own") => `(tactic| first | exact L2.ClsV.own _ | exact L2.ClsV.ty _ | (apply Toy.bd_at; (with_reducible assumption); walk_at "sm") | (apply Toy.ak_at; (with_reducible assumption); walk_at "sm") | (apply Toy.ds_at; (with_reducible assumption); walk_at "sm"))
omit B in
theorem pot_sm {H H' : Hp} {p : Addr} (h : PotAt H p) (e : Same H H') : PotAt H' p := h.same e
def spRight (K : PySem.W.Frag) : Sp := fun vs H Q _ => ∃ (p : Addr), vs = [.ref p] ∧ PotAt H p ∧ ∀ H', But p H H' → Q (.bl true) H'
theorem k__law_right (D : Df K mg "_law_right" s__law_right ["_law_pot_here"]) (D__law_draw : Dn P w K mg base 1 "_law_draw" ["_law_pot_here", "_law_many"] spTake) (D__law_number : Dn P w K mg base 3 "_law_number" ["_law_pot_here"] spNumber) (D__law_told_deed : Dn P w K mg base 6 "_law_told_deed" ["_law_pot_here"] (spToldD K)) (D_is_deed : Dn P w K mg base 3 "is_deed" ["thing"] (spIsDeed K)) (D_are_asks : Dn P w K mg base 5 "are_asks" ["board", "thing"] (spAreAsks K)) (D_played : Dn P w K mg base 7 "played" ["board", "asks"] (spPlay K)) (D_is_board : Dn P w K mg base 2 "is_board" ["thing"] (spIsBoard K)) (D__law_played : Dn P w K mg base 7 "_law_played" ["_law_board", "_law_asks"] (spPlay K)) (D_all_of : Dn P w K mg base 7 "all_of" ["board", "asks"] (spAll K)) (D_ahead_of : Dn P w K mg base 7 "ahead_of" ["board", "asks"] (spAhead K)) (D__law_together : Dn P w K mg base 8 "_law_together" ["_law_board", "_law_asks"] (spTog K)) (D__law_tree : Dn P w K mg base 42 "_law_tree" ["_law_pot_here", "_law_first", "_law_many", "_law_choice"] (spLT 40)) (D__law_folds_right : Dn P w K mg base 47 "_law_folds_right" ["_law_deeds", "_law_tree_here", "_law_value"] (spFR K)) : Dn P w K mg base 50 "_law_right" ["_law_pot_here"] (spRight K) := by
  refine D.ok fun f fd F => okG0 F sc__law_right (fun vs H Q E h => ?_) (fun cdv A outer s H vs Q E hr h => ⟨_, (pss_cons (ps_par (i := 1) (j := 2) rfl sc__law_right.nd rfl rfl (by decide) rfl rfl (pa_cons (pe_op op_add pe_int (pe_cD D__law_draw (hr.less (by decide)) rfl (pa_cons (pv 0) (pa_cons pe_int pa_nil)))) (pa_cons (pe_cD D__law_draw (hr.less (by decide)) rfl (pa_cons (pv 0) (pa_cons pe_int pa_nil))) pa_nil)) (by rfl))
    (pss_cons (ps_set (i := 3) sc__law_right.nd rfl (Or.inr rfl) (pe_callTy (tupOfK (K := K)) (by rfl) B.tuple_ (by decide +kernel) (pa_cons (pe_lc (own := [("_law_k", 10)]) (g := gName 10) (tt := tYes) rfl sc__law_right.nd (pi_range1 (by rfl) B.range_ (pa_cons (pe_op op_add pe_int (pe_cD D__law_draw (hr.less (by decide)) rfl (pa_cons (pv 0) (pa_cons pe_int pa_nil)))) pa_nil)) (blkOk_by (own := [("_law_k", 10)]) (N := ["_law_pot_here", "_law_many", "_law_choice", "_law_board", "_law_places", "_law_deeds", "_law_asks", "_law_told", "_law_kept", "_law_tree_here", "_law_k", "_law_deed_here", "_law_place"]) (sc := defScope s__law_right) (by decide +kernel)) (fun _ _ _ _ _ => (pg_name (i := 10) sc__law_right.nd rfl (Or.inl rfl))) (fun _ _ _ _ _ => pts_nil) (fun _ _ _ _ _ => (pe_cD D__law_number (hr.less (by decide)) rfl (pa_cons (pv 0) pa_nil)))) pa_nil)))
    (pss_cons (ps_setLc (i := 4) (own := [("_law_k", 10)]) (g := gName 10) (tt := tYes) rfl sc__law_right.nd rfl rfl (sw_true rfl rfl rfl (by decide +kernel)) (pi_range1 (by rfl) B.range_ (pa_cons (pv 1) pa_nil)) (blkOk_by (own := [("_law_k", 10)]) (N := ["_law_pot_here", "_law_many", "_law_choice", "_law_board", "_law_places", "_law_deeds", "_law_asks", "_law_told", "_law_kept", "_law_tree_here", "_law_k", "_law_deed_here", "_law_place"]) (sc := defScope s__law_right) (by decide +kernel)) (fun _ _ _ _ _ => (pg_name (i := 10) sc__law_right.nd rfl (Or.inl rfl))) (fun _ _ _ _ _ => pts_nil) (fun _ _ _ _ _ => (pe_tup (pa_cons (pe_cD D__law_draw (hr.less (by decide)) rfl (pa_cons (pv 0) (pa_cons pe_int pa_nil))) (pa_cons (pe_cD D__law_draw (hr.less (by decide)) rfl (pa_cons (pv 0) (pa_cons (pe_callB (lenK (K := K)) (by rfl) B.len_ (by decide +kernel) (pa_cons (pv 3) pa_nil)) pa_nil))) pa_nil)))))
    (pss_cons (ps_set (i := 5) sc__law_right.nd rfl (Or.inl rfl) (pe_callTy (tupOfK (K := K)) (by rfl) B.tuple_ (by decide +kernel) (pa_cons (pe_lc (own := [("_law_k", 10)]) (g := gName 10) (tt := tYes) rfl sc__law_right.nd (pi_range1 (by rfl) B.range_ (pa_cons (pv 1) pa_nil)) (blkOk_by (own := [("_law_k", 10)]) (N := ["_law_pot_here", "_law_many", "_law_choice", "_law_board", "_law_places", "_law_deeds", "_law_asks", "_law_told", "_law_kept", "_law_tree_here", "_law_k", "_law_deed_here", "_law_place"]) (sc := defScope s__law_right) (by decide +kernel)) (fun _ _ _ _ _ => (pg_name (i := 10) sc__law_right.nd rfl (Or.inl rfl))) (fun _ _ _ _ _ => pts_nil) (fun _ _ _ _ _ => (pe_cD D__law_told_deed (hr.less (by decide)) rfl (pa_cons (pv 0) pa_nil)))) pa_nil)))
    (pss_cons (ps_if (pt_not (pt_val (pe_callB (kk (K := K) (F := rAll) (P := CallR _ _) (cr_all rfl)) (by rfl) B.all_ (by decide +kernel) (pa_cons (pe_lc (own := [("_law_deed_here", 11)]) (g := gName 11) (tt := tYes) rfl sc__law_right.nd (kk (K := K) (F := fun K => iTup K _) (P := PI _ _ _) (pi_tup (pv 5))) (blkOk_by (own := [("_law_deed_here", 11)]) (N := ["_law_pot_here", "_law_many", "_law_choice", "_law_board", "_law_places", "_law_deeds", "_law_asks", "_law_told", "_law_kept", "_law_tree_here", "_law_k", "_law_deed_here", "_law_place"]) (sc := defScope s__law_right) (by decide +kernel)) (fun _ _ _ _ _ => (pg_name (i := 11) sc__law_right.nd rfl (Or.inl rfl))) (fun _ _ _ _ _ => pts_nil) (fun _ _ _ _ _ => (pe_cmpR op_isBl (pe_cD D_is_deed (hr.less (by decide)) rfl (pa_cons (pv 11) pa_nil)) pe_bl (nomark _)))) pa_nil))))
      (pss_one (ps_ret pe_bl))
      pss_nil)
    (pss_cons (ps_set (i := 6) sc__law_right.nd rfl (Or.inl rfl) (pe_callTy (tupOfK (K := K)) (by rfl) B.tuple_ (by decide +kernel) (pa_cons (pe_lc (own := [("_law_place", 12), ("_law_deed_here", 11)]) (tt := tYes) rfl sc__law_right.nd (kk (K := K) (F := fun K => iZipN K _) (P := PI _ _ _) (pi_zipN (by rfl) B.zip_ (pa_cons (pv 4) (pa_cons (pv 5) pa_nil)))) (blkOk_by (own := [("_law_place", 12), ("_law_deed_here", 11)]) (N := ["_law_pot_here", "_law_many", "_law_choice", "_law_board", "_law_places", "_law_deeds", "_law_asks", "_law_told", "_law_kept", "_law_tree_here", "_law_k", "_law_deed_here", "_law_place"]) (sc := defScope s__law_right) (by decide +kernel)) (fun _ _ _ _ _ => (kk (K := K) (F := fun K => gTup K 2 _) (P := PG _ _) (pg_tup rfl (pgs_cons (pg_name (i := 12) sc__law_right.nd rfl (Or.inl rfl)) (pgs_cons (pg_name (i := 11) sc__law_right.nd rfl (Or.inl rfl)) pgs_nil))))) (fun _ _ _ _ _ => pts_nil) (fun _ _ _ _ _ => (pe_op op_catU (pv 12) (pe_tup (pa_cons (pv 11) pa_nil))))) pa_nil)))
    (pss_cons (ps_if (pt_cmpR op_notBl (pe_cD D_are_asks (hr.less (by decide)) rfl (pa_cons (pv 3) (pa_cons (pv 6) pa_nil))) pe_bl (nomark _))
      (pss_one (ps_ret pe_bl))
      pss_nil)
    (pss_cons (ps_set (i := 7) sc__law_right.nd rfl (Or.inl rfl) (pe_ix (kk (K := K) (F := rIxT) (P := IxR _) ix_tup) (pe_cD D_played (hr.less (by decide)) rfl (pa_cons (pv 3) (pa_cons (pv 6) pa_nil))) pe_int (fun _ _ => rfl)))
    (pss_cons (ps_if (PW.pt (pw_or (pt_cmpR op_notBl (pe_cD D_is_board (hr.less (by decide)) rfl (pa_cons (pv 7) pa_nil)) pe_bl (nomark _)) (pw_or1 (pt_cmpR op_notBl (pe_cD D_are_asks (hr.less (by decide)) rfl (pa_cons (pv 7) (pa_cons (pv 6) pa_nil))) pe_bl (nomark _)))))
      (pss_one (ps_ret pe_bl))
      pss_nil)
    (pss_cons (ps_set (i := 8) sc__law_right.nd rfl (Or.inl rfl) (pe_callB (reprK (K := K) hr) (by rfl) B.repr_ (by decide +kernel) (pa_cons (pe_lst (pa_cons (pv 7) (pa_cons (pv 6) pa_nil))) pa_nil)))
    (pss_cons (ps_if (pt_cmpR op_ne (pe_callB (reprK (K := K) hr) (by rfl) B.repr_ (by decide +kernel) (pa_cons (pe_cD D_played (hr.less (by decide)) rfl (pa_cons (pv 7) (pa_cons (pv 6) pa_nil))) pa_nil)) (pe_callB (reprK (K := K) hr) (by rfl) B.repr_ (by decide +kernel) (pa_cons (pe_cD D__law_played (hr.less (by decide)) rfl (pa_cons (pv 7) (pa_cons (pv 6) pa_nil))) pa_nil)) (nomark _))
      (pss_one (ps_ret pe_bl))
      pss_nil)
    (pss_cons (ps_if (pt_cmpR op_ne (pe_callB (reprK (K := K) hr) (by rfl) B.repr_ (by decide +kernel) (pa_cons (pe_tup (pa_cons (pe_cD D_all_of (hr.less (by decide)) rfl (pa_cons (pv 7) (pa_cons (pv 6) pa_nil))) (pa_cons (pe_cD D_ahead_of (hr.less (by decide)) rfl (pa_cons (pv 7) (pa_cons (pv 6) pa_nil))) pa_nil))) pa_nil)) (pe_callB (reprK (K := K) hr) (by rfl) B.repr_ (by decide +kernel) (pa_cons (pe_cD D__law_together (hr.less (by decide)) rfl (pa_cons (pv 7) (pa_cons (pv 6) pa_nil))) pa_nil)) (nomark _))
      (pss_one (ps_ret pe_bl))
      pss_nil)
    (pss_cons (ps_set (i := 9) sc__law_right.nd rfl (Or.inl rfl) (pe_cD D__law_tree (hr.less (by decide)) rfl (pa_cons (pv 0) (pa_cons pe_int (pa_cons (pv 1) (pa_cons (pv 2) pa_nil))))))
    (pss_one (ps_ret (pe_and (pe_cD D__law_folds_right (hr.less (by decide)) rfl (pa_cons (pv 5) (pa_cons (pv 9) (pa_cons (pe_ix (kk (K := K) (F := rIxT) (P := IxR _) ix_tup) (pv 7) pe_int (fun _ _ => rfl)) pa_nil)))) (pe_one (pe_cmpR op_eq (pe_callB (reprK (K := K) hr) (by rfl) B.repr_ (by decide +kernel) (pa_cons (pe_lst (pa_cons (pv 7) (pa_cons (pv 6) pa_nil))) pa_nil)) (pv 8) (nomark _))))))))))))))))))), ?_⟩)
  · obtain ⟨p, rfl, _⟩ := h; rfl
  · obtain ⟨p, rfl, hp, q⟩ := h
    try walk_at "go"
    intro m0 H1 m1 m2 b1 p1
    try walk_at "go"
    intro c0 H2 c1 c2 b2 p2
    obtain ⟨m, hm⟩ : ∃ m : Nat, (1 : Int) + m0 = m := ⟨(1 + m0).toNat, by omega⟩
    have m8 : m ≤ 8 := by omega
    have m1' : 1 ≤ m := by omega
    refine ⟨_, _, rfl, ?_⟩
    simp only [hm]
    try walk_at "go"
    intro n0 H3 n1 n2 b3 p3
    obtain ⟨n, hn⟩ : ∃ n : Nat, (1 : Int) + n0 = n := ⟨(1 + n0).toNat, by omega⟩
    have n16 : n ≤ 16 := by omega
    have n1' : 1 ≤ n := by omega
    try walk_at "go"
    intro D hD
    rw [hn, Int.toNat_natCast]
    have nDp := pot_ne p3 hD
    refine lc_range (lo := 0) (n := n) (fun i H' => Kept (∃ bs : List Int, But p H3 H' ∧ PotAt H' p ∧ H' D = some (.lst (bs.map V.int)) ∧ bs.length = i ∧ Wi (10 ^ 30) bs)) ⟨⟨[], same_but (same_new hD _), p3.same (same_new hD _), upd_same, rfl, fun x hx => nomatch hx⟩⟩ ?_ ?_
    · rintro i H4 hi ⟨bs, b4, p4, oD, lb, wb⟩
      have ll : (bs.map V.int).length ≤ 16 := by rw [List.length_map]; omega
      try walk_at "go"
      intro x H5 x0 x1 b5 p5
      have oD5 := b5 _ _ nDp oD
      try walk_at "go"
      exact ⟨⟨bs ++ [x], but_upd hD (b4.trans b5), p5.upd nDp.symm, by rw [upd_same, List.map_append] <;> rfl, by rw [List.length_append, lb] <;> rfl, wb.snoc x0 x1⟩⟩
    rintro H4 ⟨bs, b4, p4, oD, lb, wb⟩
    try walk_at "go"
    intro BT hBT
    generalize eH5 : upd _ BT _ = H5
    have SH5 := newS eH5 hBT
    have oBT := newO eH5
    have p5 := p4.same SH5
    have B5 := b1.trans (b2.trans (b3.trans (b4.trans (same_but SH5))))
    have hb5 : BoardAt H5 BT bs := ⟨oBT, by omega, by omega⟩
    clear oD b4 p4 SH5 eH5 b1 p1 b2 p2 b3 p3
    try walk_at "go"
    intro D2 hD2
    try rw [hm]
    rw [Int.toNat_natCast]
    have nD2p := pot_ne p5 hD2
    have lbs : (bs.map V.int).length = bs.length := List.length_map _
    refine lc_range (lo := 0) (n := m) (fun i H' => Kept (∃ pl : List (Addr × Int × Nat), But p H5 H' ∧ PotAt H' p ∧ H' D2 = some (.lst (pl.map fun x => V.ref x.1)) ∧ pl.length = i ∧ ∀ x ∈ pl, H' x.1 = some (.tup [.int x.2.1, .int x.2.2]) ∧ 0 ≤ x.2.1 ∧ x.2.1 < 16 ∧ x.2.2 < bs.length)) ⟨⟨[], same_but (same_new hD2 _), p5.same (same_new hD2 _), upd_same, rfl, fun x hx => nomatch hx⟩⟩ ?_ ?_
    · rintro i H6 hi ⟨pl, b6, p6, oD, lp, hp6⟩
      have ll : (pl.map fun x => V.ref x.1).length ≤ 16 := by rw [List.length_map]; omega
      have tb : ∀ (t : Addr) xs H', H6 t = some (.tup xs) → But p H6 H' → H' t = some (.tup xs) := fun t xs H' h b => b _ _ (fun z => by obtain ⟨_, _, h2, _⟩ := p6; rw [← z, h] at h2; cases h2) h
      have oBT6 : H6 BT = some (.tup (bs.map V.int)) := b6 _ _ (fun z => by obtain ⟨_, _, h2, _⟩ := p5; rw [← z, hb5.1] at h2; cases h2) hb5.1
      try walk_at "go"
      intro h0 H7 h1 h2 b7 p7
      have oBT7 := tb _ _ _ oBT6 b7
      try walk_at "go"
      intro x0 H8 x1 x2 b8 p8
      have b68 := b7.trans b8
      have oD8 := b68 _ _ nD2p oD
      obtain ⟨x, rfl⟩ : ∃ x : Nat, x0 = (x : Int) := ⟨x0.toNat, by omega⟩
      try walk_at "go"
      intro U hU
      generalize eH9 : upd _ U _ = H9
      have SH9 := newS eH9 hU
      have oU := newO eH9
      have oD9 := SH9 _ _ oD8
      try walk_at "go"
      have hU : ∀ (t : Addr) ys, H9 t = some (.tup ys) → upd H9 D2 (.lst ((pl.map fun x => V.ref x.1) ++ [.ref U])) t = some (.tup ys) := fun t ys h => by rw [upd_ne (ne_of h oD9 (by intro z; cases z))]; exact h
      refine ⟨⟨pl ++ [(U, h0, x)], but_upd hD2 (b6.trans (b68.trans (same_but SH9))), (p8.same SH9).upd nD2p.symm, by rw [upd_same, List.map_append] <;> rfl, by rw [List.length_append, lp] <;> rfl, fun y hy => ?_⟩⟩
      rcases List.mem_append.mp hy with hy | hy
      · obtain ⟨g1, g2⟩ := hp6 y hy
        exact ⟨hU _ _ (SH9 _ _ (tb _ _ _ g1 b68)), g2⟩
      · cases List.mem_singleton.mp hy
        exact ⟨hU _ _ oU, h1, h2, by show x < _; omega⟩
    rintro H6 ⟨pl, b6, p6, oD2, lp, hp6⟩
    have tb : ∀ (t : Addr) xs H', H6 t = some (.tup xs) → But p H6 H' → H' t = some (.tup xs) := fun t xs H' h b => b _ _ (fun z => by obtain ⟨_, _, h2, _⟩ := p6; rw [← z, h] at h2; cases h2) h
    have oBT6 : H6 BT = some (.tup (bs.map V.int)) := b6 _ _ (fun z => by obtain ⟨_, _, h2, _⟩ := p5; rw [← z, hb5.1] at h2; cases h2) hb5.1
    try walk_at "go"
    intro D3 hD3
    try rw [hm]
    rw [Int.toNat_natCast]
    have nD3p := pot_ne p6 hD3
    refine lc_range (lo := 0) (n := m) (fun i H' => Kept (∃ ps : List (Addr × Dd), But p H6 H' ∧ PotAt H' p ∧ H' D3 = some (.lst (ps.map fun x => V.ref x.1)) ∧ ps.length = i ∧ ∀ x ∈ ps, Da K H' x.1 x.2)) ⟨⟨[], same_but (same_new hD3 _), p6.same (same_new hD3 _), upd_same, rfl, fun x hx => nomatch hx⟩⟩ ?_ ?_
    · rintro i H7 hi ⟨ps, b7, p7, oD, lps, hps⟩
      have ll : (ps.map fun x => V.ref x.1).length ≤ 16 := by rw [List.length_map]; omega
      try walk_at "go"
      intro a d H8 b8 p8 had
      have oD8 := b8 _ _ nD3p oD
      try walk_at "go"
      refine ⟨⟨ps ++ [(a, d)], but_upd hD3 (b7.trans b8), p8.upd nD3p.symm, by rw [upd_same, List.map_append] <;> rfl, by rw [List.length_append, lps] <;> rfl, fun y hy => Da.but But.upd oD8 ?_⟩⟩
      rcases List.mem_append.mp hy with hy | hy
      · obtain ⟨_, _, h2, _⟩ := p7
        exact (hps y hy).but b8 h2
      · cases List.mem_singleton.mp hy
        exact had
    rintro H7 ⟨ps, b7, p7, oD3, lps, hps⟩
    try walk_at "go"
    intro DT hDT
    generalize eH8 : upd _ DT _ = H8
    have SH8 := newS eH8 hDT
    have oDT := newO eH8
    have hds8 : DsAt K H8 DT ps := ⟨oDT, by omega, by omega, fun x hx => (hps x hx).same SH8⟩
    have oD28 := SH8 _ _ (b7 _ _ nD2p oD2)
    have hp8 : ∀ x ∈ pl, H8 x.1 = some (.tup [.int x.2.1, .int x.2.2]) ∧ 0 ≤ x.2.1 ∧ x.2.1 < 16 ∧ x.2.2 < bs.length := fun x hx => ⟨SH8 _ _ (tb _ _ _ (hp6 x hx).1 b7), (hp6 x hx).2⟩
    have hb8 : BoardAt H8 BT bs := ⟨SH8 _ _ (tb _ _ _ oBT6 b7), hb5.2⟩
    have p8 := p7.same SH8
    have B8 := B5.trans (b6.trans (b7.trans (same_but SH8)))
    clear oD2 oD3 hps hp6 b7 p7 b6 p6 tb
    try walk_at "go"
    intro D4 hD4
    refine lc_tup (K := K) (a := DT) (xs := ps.map fun x => V.ref x.1) (fun i H' => Kept (Same H8 H' ∧ H' D4 = some (.lst ((List.replicate i true).map V.bl)))) ⟨⟨same_new hD4 _, upd_same⟩⟩ (fun i H' _ h => SqT.of (h.ex.1 _ _ oDT)) ?_ ?_
    · rintro i x H9 hx ⟨S9, oD⟩
      rw [List.getElem?_map] at hx
      obtain ⟨y, hy, rfl⟩ := Option.map_eq_some_iff.mp hx
      have il := (List.getElem?_eq_some_iff.mp hy).1
      have hda : DeedArg K H9 y.1 y.2 := ((hds8.2.2.2 y (List.mem_of_getElem? hy)).same S9).arg
      have lr : ((List.replicate i true).map V.bl).length ≤ 16 := by rw [List.length_map, List.length_replicate]; omega
      try walk_at "go"
      exact ⟨⟨but_same hD4 S9 But.upd, by rw [upd_same, List.replicate_succ', List.map_append] <;> rfl⟩⟩
    rintro H9 ⟨S9, oD4⟩
    try walk_at "go"
    rw [rep_all]
    refine ifF rfl ?_
    have oD29 := S9 _ _ oD28
    have oDT9 := S9 _ _ oDT
    try walk_at "go"
    intro D5 hD5
    refine lc_zipN (K := K) (a := D2) (b := DT) (xs := pl.map fun x => V.ref x.1) (ys := ps.map fun x => V.ref x.1) (by rw [List.length_map, List.length_map, lp, lps]) (fun i H' => Kept (∃ as : List Ak, Same H9 H' ∧ H' D5 = some (.lst (as.map fun x => V.ref x.a)) ∧ as.length = i ∧ ∀ x ∈ as, x.at_ K H' bs.length)) ⟨⟨[], same_new hD5 _, upd_same, rfl, fun x hx => nomatch hx⟩⟩ (fun i H' _ h => by obtain ⟨_, S, _⟩ := h.ex; exact ⟨SqL.of (S _ _ oD29), SqT.of (S _ _ oDT9)⟩) ?_ ?_
    · rintro i x y T H10 hx hy ⟨as, S10, oD, la, has⟩ hT
      rw [List.getElem?_map] at hx hy
      obtain ⟨u, hu, rfl⟩ := Option.map_eq_some_iff.mp hx
      obtain ⟨z, hz, rfl⟩ := Option.map_eq_some_iff.mp hy
      have il := (List.getElem?_eq_some_iff.mp hu).1
      generalize eH11 : upd _ T (HO.tup [V.ref u.1, V.ref z.1]) = H11
      have SH11 := newS eH11 hT
      have oT := newO eH11
      obtain ⟨hu8, hu9⟩ := hp8 u (List.mem_of_getElem? hu)
      have hu11 := (S9.trans (S10.trans SH11)) _ _ hu8
      have oD11 := SH11 _ _ oD
      have ll : (as.map fun x => V.ref x.a).length ≤ 16 := by rw [List.length_map]; omega
      try walk_at "go"
      intro W hW
      generalize eH12 : upd _ W _ = H12
      have SH12 := newS eH12 hW
      have oW := newO eH12
      have oD12 := SH12 _ _ oD11
      have hu12 := SH12 _ _ hu11
      try walk_at "go"
      intro X H13 S13 oX
      have oD13 := S13 _ _ oD12
      try walk_at "go"
      have S1013 := SH11.trans (SH12.trans S13)
      refine ⟨⟨as ++ [⟨X, u.2.1, u.2.2, z.1, z.2⟩], but_same hD5 (S10.trans S1013) But.upd, by rw [upd_same, List.map_append] <;> rfl, by rw [List.length_append, la] <;> rfl, fun k hk => Ak.at_.but But.upd oD13 ?_⟩⟩
      rcases List.mem_append.mp hk with hk | hk
      · exact (has k hk).same S1013
      · cases List.mem_singleton.mp hk
        exact ⟨oX, (hds8.2.2.2 z (List.mem_of_getElem? hz)).same (S9.trans (S10.trans S1013)), hu9.1, hu9.2.1, hu9.2.2⟩
    rintro H10 ⟨as, S10, oD5, la, has⟩
    rw [List.length_map, lp] at la
    try walk_at "go"
    intro KT hKT
    generalize eH11 : upd _ KT _ = H11
    have SH11 := newS eH11 hKT
    have oKT := newO eH11
    have hk11 : AsksAt K H11 KT as bs.length := ⟨oKT, by omega, fun x hx => (has x hx).same SH11⟩
    have S811 := S9.trans (S10.trans SH11)
    have hb11 := hb8.same S811
    have hds11 := hds8.same S811
    have p11 := p8.same S811
    have B11 := B8.trans (same_but S811)
    clear oD4 oD5 oD28 hp8 oD29 oDT9 has S811 S9 S10 SH11 eH11
    try walk_at "go"
    intro H12 S12
    try walk_at "go"
    intro r t1 t2 H13 S13 or ot1 ot2
    obtain ⟨l1, l2⟩ := play_len (as := as) (bs := bs)
    have l16 := hb11.2
    have hT : BoardAt H13 t2 (play as bs).2 := ⟨ot2, by omega, by omega⟩
    have hk13 : AsksAt K H13 KT as (play as bs).2.length := by rw [l2]; exact hk11.same (S12.trans S13)
    have hbox : ∀ x ∈ as, x.d.In (10 ^ 89) ∧ x.box < bs.length := fun x hx => ⟨(hk11.2.2 x hx).2.1.2.1, (hk11.2.2 x hx).2.2.2.2⟩
    have pin := play_in (K := K) (by decide) wb hk11.2.2
    have a8 : (as.length : Int) ≤ 8 := by omega
    have wT : Wi (10 ^ 91) (play as bs).2 := pin.2.2.2.mono (by omega)
    have v0 : -(10 ^ 92) ≤ (play as bs).2.getD 0 0 ∧ (play as bs).2.getD 0 0 ≤ 10 ^ 92 := by have := wT.get (i := 0) (by decide); omega
    generalize (play as bs).2 = vs at hT hk13 wT l2 v0
    have hvT := hT.1
    try walk_at "go"
    intro H14 S14
    try walk_at "go"
    intro H15 S15
    try walk_at "go"
    intro KL hKL
    generalize eH16 : upd _ KL _ = H16
    have SH16 := newS eH16 hKL
    have oKL := newO eH16
    have S316 := S14.trans (S15.trans SH16)
    have hT16 := hT.same S316
    have hk16 := hk13.same S316
    have sh1 : Sh (intsD vs) 3 800000 := (ints_sh1 (n := 16) wT (by decide) (by omega)).mono (by decide) (by decide)
    have shK : Sh (.list [intsD vs, akD as]) 4 1700000 := Sh.lst (f := id) (n := 3) (c := 800000) (j := 2) (xs := [intsD vs, akD as]) (fun x hx => by
      simp only [List.mem_cons, List.not_mem_nil, or_false] at hx
      rcases hx with rfl | rfl
      · exact sh1
      · exact hk16.sh (by omega)) (Nat.le_refl _) (Nat.le_refl _) (by decide)
    have dpK : ∀ H', BoardAt H' t2 vs → AsksAt K H' KT as vs.length → ∀ L, H' L = some (.lst [.ref t2, .ref KT]) → Dp K H' (.ref L) (.list [intsD vs, akD as]) := fun H' b k L o => .lst (SqL.of o) (.cons b.dp (.cons k.dp .nil))
    refine rep_ (dpK H16 hT16 hk16 KL oKL) shK (q := ?_)
    have shP := play_sh hk16 (by omega) wT (by decide) (by decide)
    try walk_at "go"
    intro r1 s1 s2 H17 S17 or1 os1 os2
    refine rep_ (TwoAt.dp ⟨s1, s2, or1, os1, os2⟩) shP (q := ?_)
    try walk_at "go"
    intro r2 s3 s4 H18 S18 or2 os3 os4
    refine rep_ (TwoAt.dp ⟨s3, s4, or2, os3, os4⟩) shP (q := ?_)
    refine ⟨rfl, _, rfl, ifF (dec_ne rfl) ?_⟩
    try walk_at "go"
    intro T1 q1 H19 S19 oT1 e1 r1
    try walk_at "go"
    intro T2 q2 H20 S20 oT2 e2 r2
    try walk_at "go"
    intro R1 hR1
    generalize eH21 : upd _ R1 _ = H21
    have SH21 := newS eH21 hR1
    have oR1 := newO eH21
    have S1921 := S20.trans SH21
    have mdi := made_in (n := vs.length) fun x hx => (hbox x hx).1
    obtain ⟨ml1, ml2⟩ := made_len (as := as) (n := vs.length)
    have shM : Sh (.tuple [refsD (madeOf as vs.length).2, refsD (madeOf as vs.length).1]) 3 600000 := Sh.tup (f := id) (n := 2) (c := 250000) (j := 2) (xs := [refsD (madeOf as vs.length).2, refsD (madeOf as vs.length).1]) (fun x hx => by
      simp only [List.mem_cons, List.not_mem_nil, or_false] at hx
      rcases hx with rfl | rfl
      · exact refs_sh mdi.2 (by omega) (by omega)
      · exact refs_sh mdi.1 (by omega) (by omega)) (Nat.le_refl _) (Nat.le_refl _) (by decide)
    refine rep_ (.tup (SqT.of oR1) (.cons (refs_dp' e1 (SqT.of (S1921 _ _ oT1)) (r1.same S1921)) (.cons (refs_dp' e2 (SqT.of (SH21 _ _ oT2)) (r2.same SH21)) .nil))) shM (q := ?_)
    try walk_at "go"
    intro R2 U1 U2 q3 q4 H22 S22 oR2 oU1 oU2 e3 e4 r3 r4
    refine rep_ (.tup (SqT.of oR2) (.cons (refs_dp' e3 (SqT.of oU1) r3) (.cons (refs_dp' e4 (SqT.of oU2) r4) .nil))) shM (q := ?_)
    refine ⟨rfl, _, rfl, ifF (dec_ne rfl) ?_⟩
    have S1622 := S17.trans (S18.trans (S19.trans (S1921.trans S22)))
    have S1122 := S12.trans (S13.trans (S316.trans S1622))
    have p22 := p11.same S1122
    have hds22 := hds11.same S1122
    have hT22 := hT16.same S1622
    have hk22 := hk16.same S1622
    have B22 := B11.trans (same_but S1122)
    try walk_at "go"
    intro v t H23 b23 p23 tt row cnt
    obtain ⟨_, _, hpp, _⟩ := p22
    have hT23 : BoardAt H23 t2 vs := ⟨b23 _ _ (ne_of hT22.1 hpp (by intro z; cases z)) hT22.1, hT22.2⟩
    have hk23 := hk22.but b23 hpp
    have hds23 := hds22.but b23 hpp
    have oT23 := hT23.1
    have hv1 : 0 < vs.length := by rw [l2]; omega
    have ix : atI (vs.map V.int) 0 = some (V.int (vs.getD 0 0)) := at_of (j := 0) rfl (map_getD hv1)
    have cnt' : t.cnt = ps.length := by omega
    have v1 := v0.1
    have v2 := v0.2
    have lp8 : ps.length ≤ 8 := by omega
    try walk_at "go"
    intro H24 S24
    have hT24 := hT23.same S24
    have hk24 := hk23.same S24
    try walk_at "go"
    intro KM hKM
    generalize eH25 : upd _ KM _ = H25
    have SH25 := newS eH25 hKM
    have oKM := newO eH25
    refine rep_ (dpK H25 (hT24.same SH25) (hk24.same SH25) KM oKM) shK (q := ?_)
    refine ⟨_, rfl, rfl, ?_⟩
    rw [dec_self]
    exact q _ (B22.trans (b23.trans (same_but (S24.trans SH25))))
def spLaw (K : PySem.W.Frag) : Sp := fun vs H Q _ => ∃ (a : Addr) (ns : List Int), vs = [.ref a] ∧ SqL K H a (ns.map V.int) ∧ ns.length ≤ 63 ∧ ∀ H', Q (.bl true) H'
theorem k_law {f : Addr} {fd : FuncData} (F : Fun K "law" "law" s_law f fd) (D__law_pot : Dn P w K mg base 1 "_law_pot" ["_law_script", "_law_k"] (spPot2 K)) (D__law_right : Dn P w K mg base 50 "_law_right" ["_law_pot_here"] (spRight K)) : FnG P w K mg base CX0 51 f fd ["_law_script"] (spLaw K) := by
  refine okG0 F sc_law (fun vs H Q E h => ?_) (fun cdv A outer s H vs Q E hr h => ⟨_, (pss_one (ps_ret (pe_callB (kk (K := K) (F := rAll) (P := CallR _ _) (cr_all rfl)) (by rfl) B.all_ (by decide +kernel) (pa_cons (pe_lc (own := [("_law_k", 1)]) (g := gName 1) (tt := tYes) rfl sc_law.nd (pi_range1 (by rfl) B.range_ (pa_cons (pe_callB (call_max2 rfl) (by rfl) B.max_ (by decide +kernel) (pa_cons pe_int (pa_cons (pe_callB (call_min2 rfl) (by rfl) B.min_ (by decide +kernel) (pa_cons (pe_callB (lenK (K := K)) (by rfl) B.len_ (by decide +kernel) (pa_cons (pv 0) pa_nil)) (pa_cons pe_int pa_nil))) pa_nil))) pa_nil)) (blkOk_by (own := [("_law_k", 1)]) (N := ["_law_script", "_law_k"]) (sc := defScope s_law) (by decide +kernel)) (fun _ _ _ _ _ => (pg_name (i := 1) sc_law.nd rfl (Or.inl rfl))) (fun _ _ _ _ _ => pts_nil) (fun _ _ _ _ _ => (pe_cD D__law_right (hr.less (by decide)) rfl (pa_cons (pe_cD D__law_pot (hr.less (by decide)) rfl (pa_cons (pv 0) (pa_cons (pv 1) pa_nil))) pa_nil)))) pa_nil)))), ?_⟩)
  · obtain ⟨a, ns, rfl, _⟩ := h; rfl
  · obtain ⟨a, ns, rfl, hs, hn, q⟩ := h
    refine ⟨_, rfl, a, _, rfl, .inl hs, _, _, rfl, _, _, rfl, _, rfl, ?_, ?_, fun D hD => ?_⟩
    · split <;> split <;> omega
    · split <;> split <;> omega
    have hN : (if (if (4 : Int) < ((ns.map V.int).length : Nat) then (4 : Int) else ((ns.map V.int).length : Nat)) > 1 then (if (4 : Int) < ((ns.map V.int).length : Nat) then (4 : Int) else ((ns.map V.int).length : Nat)) else 1).toNat ≤ 4 := by split <;> split <;> omega
    generalize (if (if (4 : Int) < ((ns.map V.int).length : Nat) then (4 : Int) else ((ns.map V.int).length : Nat)) > 1 then (if (4 : Int) < ((ns.map V.int).length : Nat) then (4 : Int) else ((ns.map V.int).length : Nat)) else 1).toNat = n at hN
    refine lc_range (lo := 0) (n := n) (fun i H2 => Same H H2 ∧ H2 D = some (.lst ((List.replicate i true).map V.bl))) ⟨same_new hD _, upd_same⟩ ?_ ?_
    · rintro i H2 hi ⟨S2, hD2⟩
      refine ⟨rfl, ?_⟩
      refine ⟨_, rfl, _, rfl, a, ns, i, by show [V.ref a, V.int (0 + (i : Int))] = _; rw [Int.zero_add], S2.seq hs, by omega, fun p H3 np S3 p3 => ?_⟩
      refine ⟨p, rfl, p3, fun H4 b4 => ?_⟩
      have S4 := but_same np S3 b4
      exact ⟨_, S4 _ _ hD2, by rw [rep_len]; exact small1000 (by omega), but_same hD (S2.trans S4) But.upd, by rw [upd_same, rep_snoc]⟩
    · rintro H2 ⟨S2, hD2⟩
      refine ⟨D, _, rfl, SqL.of hD2, ?_⟩
      rw [rep_all]
      exact q _
end
structure AllD (K : PySem.W.Frag) (mg : Str → Option Value) : Prop where
  d_is_whole : Df K mg "is_whole" s_is_whole ["thing"]
  d_is_within : Df K mg "is_within" s_is_within ["thing", "least", "most"]
  d_is_row_of : Df K mg "is_row_of" s_is_row_of ["thing", "many"]
  d_want_whole : Df K mg "want_whole" s_want_whole ["thing"]
  d_want_within : Df K mg "want_within" s_want_within ["thing", "least", "most"]
  d_want_from : Df K mg "want_from" s_want_from ["thing", "least"]
  d_is_end : Df K mg "is_end" s_is_end ["thing"]
  d_is_deed : Df K mg "is_deed" s_is_deed ["thing"]
  d_want_deed : Df K mg "want_deed" s_want_deed ["thing"]
  d_put_through : Df K mg "put_through" s_put_through ["deed", "value"]
  d_whole_deed : Df K mg "whole_deed" s_whole_deed ["add", "low", "high"]
  d_one_behind : Df K mg "one_behind" s_one_behind ["one", "other"]
  d_again : Df K mg "again" s_again ["deed", "many"]
  d_is_board : Df K mg "is_board" s_is_board ["thing"]
  d_want_board : Df K mg "want_board" s_want_board ["board"]
  d_is_ask : Df K mg "is_ask" s_is_ask ["board", "thing"]
  d_are_asks : Df K mg "are_asks" s_are_asks ["board", "thing"]
  d_want_asks : Df K mg "want_asks" s_want_asks ["board", "asks"]
  d_played : Df K mg "played" s_played ["board", "asks"]
  d_all_of : Df K mg "all_of" s_all_of ["board", "asks"]
  d_ahead_of : Df K mg "ahead_of" s_ahead_of ["board", "asks"]
  d_want_many : Df K mg "want_many" s_want_many ["many"]
  d_is_tree : Df K mg "is_tree" s_is_tree ["thing", "many"]
  d_want_deeds : Df K mg "want_deeds" s_want_deeds ["deeds"]
  d_want_tree : Df K mg "want_tree" s_want_tree ["tree", "many"]
  d_folded_of : Df K mg "folded_of" s_folded_of ["deeds", "tree"]
  d_folded : Df K mg "folded" s_folded ["deeds", "tree"]
  d_shared_of : Df K mg "shared_of" s_shared_of ["deeds", "tree", "value"]
  d_shared_out : Df K mg "shared_out" s_shared_out ["deeds", "tree", "value"]
  d__law_pot : Df K mg "_law_pot" s__law_pot ["_law_script", "_law_k"]
  d__law_draw : Df K mg "_law_draw" s__law_draw ["_law_pot_here", "_law_many"]
  d__law_far : Df K mg "_law_far" s__law_far ["_law_pot_here"]
  d__law_number : Df K mg "_law_number" s__law_number ["_law_pot_here"]
  d__law_deed : Df K mg "_law_deed" s__law_deed ["_law_pot_here"]
  d__law_times : Df K mg "_law_times" s__law_times ["_law_pot_here"]
  d__law_told_deed : Df K mg "_law_told_deed" s__law_told_deed ["_law_pot_here"]
  d__law_done : Df K mg "_law_done" s__law_done ["_law_deed_here", "_law_value"]
  d__law_behind : Df K mg "_law_behind" s__law_behind ["_law_one", "_law_other"]
  d__law_played : Df K mg "_law_played" s__law_played ["_law_board", "_law_asks"]
  d__law_together : Df K mg "_law_together" s__law_together ["_law_board", "_law_asks"]
  d__law_tree : Df K mg "_law_tree" s__law_tree ["_law_pot_here", "_law_first", "_law_many", "_law_choice"]
  d__law_folds_right : Df K mg "_law_folds_right" s__law_folds_right ["_law_deeds", "_law_tree_here", "_law_value"]
  d__law_right : Df K mg "_law_right" s__law_right ["_law_pot_here"]
  d_law : Df K mg "law" s_law ["_law_script"]
  bl : Bl K mg
theorem all_mk {w : World} {K : PySem.W.Frag} {h : Heap} {mg : Str → Option Value} (X : K.In h) (G : h.Ns mainGlobals mg)
    {f1 f2 f3 f4 f5 f6 f7 f8 f9 f10 f11 f12 f13 f14 f15 f16 f17 f18 f19 f20 f21 f22 f23 f24 f25 f26 f27 f28 f29 f30 f31 f32 f33 f34 f35 f36 f37 f38 f39 f40 f41 f42 f43 f44 : Addr} {od1 an1 od2 an2 od3 an3 od4 an4 od5 an5 od6 an6 od7 an7 od8 an8 od9 an9 od10 an10 od11 an11 od12 an12 od13 an13 od14 an14 od15 an15 od16 an16 od17 an17 od18 an18 od19 an19 od20 an20 od21 an21 od22 an22 od23 an23 od24 an24 od25 an25 od26 an26 od27 an27 od28 an28 od29 an29 od30 an30 od31 an31 od32 an32 od33 an33 od34 an34 od35 an35 od36 an36 od37 an37 od38 an38 od39 an39 od40 an40 od41 an41 od42 an42 od43 an43 od44 an44 : Option Addr} {sl1 sl2 sl3 sl4 sl5 sl6 sl7 sl8 sl9 sl10 sl11 sl12 sl13 sl14 sl15 sl16 sl17 sl18 sl19 sl20 sl21 sl22 sl23 sl24 sl25 sl26 sl27 sl28 sl29 sl30 sl31 sl32 sl33 sl34 sl35 sl36 sl37 sl38 sl39 sl40 sl41 sl42 sl43 sl44 : Array (Option Value)} {oc1 kV1 dc1 pm1 cd1 ct1 oc2 kV2 dc2 pm2 cd2 ct2 oc3 kV3 dc3 pm3 cd3 ct3 oc4 kV4 dc4 pm4 cd4 ct4 oc5 kV5 dc5 pm5 cd5 ct5 oc6 kV6 dc6 pm6 cd6 ct6 oc7 kV7 dc7 pm7 cd7 ct7 oc8 kV8 dc8 pm8 cd8 ct8 oc9 kV9 dc9 pm9 cd9 ct9 oc10 kV10 dc10 pm10 cd10 ct10 oc11 kV11 dc11 pm11 cd11 ct11 oc12 kV12 dc12 pm12 cd12 ct12 oc13 kV13 dc13 pm13 cd13 ct13 oc14 kV14 dc14 pm14 cd14 ct14 oc15 kV15 dc15 pm15 cd15 ct15 oc16 kV16 dc16 pm16 cd16 ct16 oc17 kV17 dc17 pm17 cd17 ct17 oc18 kV18 dc18 pm18 cd18 ct18 oc19 kV19 dc19 pm19 cd19 ct19 oc20 kV20 dc20 pm20 cd20 ct20 oc21 kV21 dc21 pm21 cd21 ct21 oc22 kV22 dc22 pm22 cd22 ct22 oc23 kV23 dc23 pm23 cd23 ct23 oc24 kV24 dc24 pm24 cd24 ct24 oc25 kV25 dc25 pm25 cd25 ct25 oc26 kV26 dc26 pm26 cd26 ct26 oc27 kV27 dc27 pm27 cd27 ct27 oc28 kV28 dc28 pm28 cd28 ct28 oc29 kV29 dc29 pm29 cd29 ct29 oc30 kV30 dc30 pm30 cd30 ct30 oc31 kV31 dc31 pm31 cd31 ct31 oc32 kV32 dc32 pm32 cd32 ct32 oc33 kV33 dc33 pm33 cd33 ct33 oc34 kV34 dc34 pm34 cd34 ct34 oc35 kV35 dc35 pm35 cd35 ct35 oc36 kV36 dc36 pm36 cd36 ct36 oc37 kV37 dc37 pm37 cd37 ct37 oc38 kV38 dc38 pm38 cd38 ct38 oc39 kV39 dc39 pm39 cd39 ct39 oc40 kV40 dc40 pm40 cd40 ct40 oc41 kV41 dc41 pm41 cd41 ct41 oc42 kV42 dc42 pm42 cd42 ct42 oc43 kV43 dc43 pm43 cd43 ct43 oc44 kV44 dc44 pm44 cd44 ct44 : Value}
    (a1 : PySem.W.nsIn K mainGlobals "is_whole" = some (some (.ref f1))) (l1 : K.lookup f1 = some ⟨oc1, od1, .func (PySem.W.fnOf "is_whole" "is_whole" (defArgs s_is_whole) (defBody s_is_whole) (defScope s_is_whole) .none kV1 dc1 pm1 an1 cd1 ct1), sl1⟩) (c1 : PySem.W.codeIn K cd1 "is_whole" = true) (k1 : PySem.W.keepIn K (.ref f1) = true)
    (a2 : PySem.W.nsIn K mainGlobals "is_within" = some (some (.ref f2))) (l2 : K.lookup f2 = some ⟨oc2, od2, .func (PySem.W.fnOf "is_within" "is_within" (defArgs s_is_within) (defBody s_is_within) (defScope s_is_within) .none kV2 dc2 pm2 an2 cd2 ct2), sl2⟩) (c2 : PySem.W.codeIn K cd2 "is_within" = true) (k2 : PySem.W.keepIn K (.ref f2) = true)
    (a3 : PySem.W.nsIn K mainGlobals "is_row_of" = some (some (.ref f3))) (l3 : K.lookup f3 = some ⟨oc3, od3, .func (PySem.W.fnOf "is_row_of" "is_row_of" (defArgs s_is_row_of) (defBody s_is_row_of) (defScope s_is_row_of) .none kV3 dc3 pm3 an3 cd3 ct3), sl3⟩) (c3 : PySem.W.codeIn K cd3 "is_row_of" = true) (k3 : PySem.W.keepIn K (.ref f3) = true)
    (a4 : PySem.W.nsIn K mainGlobals "want_whole" = some (some (.ref f4))) (l4 : K.lookup f4 = some ⟨oc4, od4, .func (PySem.W.fnOf "want_whole" "want_whole" (defArgs s_want_whole) (defBody s_want_whole) (defScope s_want_whole) .none kV4 dc4 pm4 an4 cd4 ct4), sl4⟩) (c4 : PySem.W.codeIn K cd4 "want_whole" = true) (k4 : PySem.W.keepIn K (.ref f4) = true)
    (a5 : PySem.W.nsIn K mainGlobals "want_within" = some (some (.ref f5))) (l5 : K.lookup f5 = some ⟨oc5, od5, .func (PySem.W.fnOf "want_within" "want_within" (defArgs s_want_within) (defBody s_want_within) (defScope s_want_within) .none kV5 dc5 pm5 an5 cd5 ct5), sl5⟩) (c5 : PySem.W.codeIn K cd5 "want_within" = true) (k5 : PySem.W.keepIn K (.ref f5) = true)
    (a6 : PySem.W.nsIn K mainGlobals "want_from" = some (some (.ref f6))) (l6 : K.lookup f6 = some ⟨oc6, od6, .func (PySem.W.fnOf "want_from" "want_from" (defArgs s_want_from) (defBody s_want_from) (defScope s_want_from) .none kV6 dc6 pm6 an6 cd6 ct6), sl6⟩) (c6 : PySem.W.codeIn K cd6 "want_from" = true) (k6 : PySem.W.keepIn K (.ref f6) = true)
    (a7 : PySem.W.nsIn K mainGlobals "is_end" = some (some (.ref f7))) (l7 : K.lookup f7 = some ⟨oc7, od7, .func (PySem.W.fnOf "is_end" "is_end" (defArgs s_is_end) (defBody s_is_end) (defScope s_is_end) .none kV7 dc7 pm7 an7 cd7 ct7), sl7⟩) (c7 : PySem.W.codeIn K cd7 "is_end" = true) (k7 : PySem.W.keepIn K (.ref f7) = true)
    (a8 : PySem.W.nsIn K mainGlobals "is_deed" = some (some (.ref f8))) (l8 : K.lookup f8 = some ⟨oc8, od8, .func (PySem.W.fnOf "is_deed" "is_deed" (defArgs s_is_deed) (defBody s_is_deed) (defScope s_is_deed) .none kV8 dc8 pm8 an8 cd8 ct8), sl8⟩) (c8 : PySem.W.codeIn K cd8 "is_deed" = true) (k8 : PySem.W.keepIn K (.ref f8) = true)
    (a9 : PySem.W.nsIn K mainGlobals "want_deed" = some (some (.ref f9))) (l9 : K.lookup f9 = some ⟨oc9, od9, .func (PySem.W.fnOf "want_deed" "want_deed" (defArgs s_want_deed) (defBody s_want_deed) (defScope s_want_deed) .none kV9 dc9 pm9 an9 cd9 ct9), sl9⟩) (c9 : PySem.W.codeIn K cd9 "want_deed" = true) (k9 : PySem.W.keepIn K (.ref f9) = true)
    (a10 : PySem.W.nsIn K mainGlobals "put_through" = some (some (.ref f10))) (l10 : K.lookup f10 = some ⟨oc10, od10, .func (PySem.W.fnOf "put_through" "put_through" (defArgs s_put_through) (defBody s_put_through) (defScope s_put_through) .none kV10 dc10 pm10 an10 cd10 ct10), sl10⟩) (c10 : PySem.W.codeIn K cd10 "put_through" = true) (k10 : PySem.W.keepIn K (.ref f10) = true)
    (a11 : PySem.W.nsIn K mainGlobals "whole_deed" = some (some (.ref f11))) (l11 : K.lookup f11 = some ⟨oc11, od11, .func (PySem.W.fnOf "whole_deed" "whole_deed" (defArgs s_whole_deed) (defBody s_whole_deed) (defScope s_whole_deed) .none kV11 dc11 pm11 an11 cd11 ct11), sl11⟩) (c11 : PySem.W.codeIn K cd11 "whole_deed" = true) (k11 : PySem.W.keepIn K (.ref f11) = true)
    (a12 : PySem.W.nsIn K mainGlobals "one_behind" = some (some (.ref f12))) (l12 : K.lookup f12 = some ⟨oc12, od12, .func (PySem.W.fnOf "one_behind" "one_behind" (defArgs s_one_behind) (defBody s_one_behind) (defScope s_one_behind) .none kV12 dc12 pm12 an12 cd12 ct12), sl12⟩) (c12 : PySem.W.codeIn K cd12 "one_behind" = true) (k12 : PySem.W.keepIn K (.ref f12) = true)
    (a13 : PySem.W.nsIn K mainGlobals "again" = some (some (.ref f13))) (l13 : K.lookup f13 = some ⟨oc13, od13, .func (PySem.W.fnOf "again" "again" (defArgs s_again) (defBody s_again) (defScope s_again) .none kV13 dc13 pm13 an13 cd13 ct13), sl13⟩) (c13 : PySem.W.codeIn K cd13 "again" = true) (k13 : PySem.W.keepIn K (.ref f13) = true)
    (a14 : PySem.W.nsIn K mainGlobals "is_board" = some (some (.ref f14))) (l14 : K.lookup f14 = some ⟨oc14, od14, .func (PySem.W.fnOf "is_board" "is_board" (defArgs s_is_board) (defBody s_is_board) (defScope s_is_board) .none kV14 dc14 pm14 an14 cd14 ct14), sl14⟩) (c14 : PySem.W.codeIn K cd14 "is_board" = true) (k14 : PySem.W.keepIn K (.ref f14) = true)
    (a15 : PySem.W.nsIn K mainGlobals "want_board" = some (some (.ref f15))) (l15 : K.lookup f15 = some ⟨oc15, od15, .func (PySem.W.fnOf "want_board" "want_board" (defArgs s_want_board) (defBody s_want_board) (defScope s_want_board) .none kV15 dc15 pm15 an15 cd15 ct15), sl15⟩) (c15 : PySem.W.codeIn K cd15 "want_board" = true) (k15 : PySem.W.keepIn K (.ref f15) = true)
    (a16 : PySem.W.nsIn K mainGlobals "is_ask" = some (some (.ref f16))) (l16 : K.lookup f16 = some ⟨oc16, od16, .func (PySem.W.fnOf "is_ask" "is_ask" (defArgs s_is_ask) (defBody s_is_ask) (defScope s_is_ask) .none kV16 dc16 pm16 an16 cd16 ct16), sl16⟩) (c16 : PySem.W.codeIn K cd16 "is_ask" = true) (k16 : PySem.W.keepIn K (.ref f16) = true)
    (a17 : PySem.W.nsIn K mainGlobals "are_asks" = some (some (.ref f17))) (l17 : K.lookup f17 = some ⟨oc17, od17, .func (PySem.W.fnOf "are_asks" "are_asks" (defArgs s_are_asks) (defBody s_are_asks) (defScope s_are_asks) .none kV17 dc17 pm17 an17 cd17 ct17), sl17⟩) (c17 : PySem.W.codeIn K cd17 "are_asks" = true) (k17 : PySem.W.keepIn K (.ref f17) = true)
    (a18 : PySem.W.nsIn K mainGlobals "want_asks" = some (some (.ref f18))) (l18 : K.lookup f18 = some ⟨oc18, od18, .func (PySem.W.fnOf "want_asks" "want_asks" (defArgs s_want_asks) (defBody s_want_asks) (defScope s_want_asks) .none kV18 dc18 pm18 an18 cd18 ct18), sl18⟩) (c18 : PySem.W.codeIn K cd18 "want_asks" = true) (k18 : PySem.W.keepIn K (.ref f18) = true)
    (a19 : PySem.W.nsIn K mainGlobals "played" = some (some (.ref f19))) (l19 : K.lookup f19 = some ⟨oc19, od19, .func (PySem.W.fnOf "played" "played" (defArgs s_played) (defBody s_played) (defScope s_played) .none kV19 dc19 pm19 an19 cd19 ct19), sl19⟩) (c19 : PySem.W.codeIn K cd19 "played" = true) (k19 : PySem.W.keepIn K (.ref f19) = true)
    (a20 : PySem.W.nsIn K mainGlobals "all_of" = some (some (.ref f20))) (l20 : K.lookup f20 = some ⟨oc20, od20, .func (PySem.W.fnOf "all_of" "all_of" (defArgs s_all_of) (defBody s_all_of) (defScope s_all_of) .none kV20 dc20 pm20 an20 cd20 ct20), sl20⟩) (c20 : PySem.W.codeIn K cd20 "all_of" = true) (k20 : PySem.W.keepIn K (.ref f20) = true)
    (a21 : PySem.W.nsIn K mainGlobals "ahead_of" = some (some (.ref f21))) (l21 : K.lookup f21 = some ⟨oc21, od21, .func (PySem.W.fnOf "ahead_of" "ahead_of" (defArgs s_ahead_of) (defBody s_ahead_of) (defScope s_ahead_of) .none kV21 dc21 pm21 an21 cd21 ct21), sl21⟩) (c21 : PySem.W.codeIn K cd21 "ahead_of" = true) (k21 : PySem.W.keepIn K (.ref f21) = true)
    (a22 : PySem.W.nsIn K mainGlobals "want_many" = some (some (.ref f22))) (l22 : K.lookup f22 = some ⟨oc22, od22, .func (PySem.W.fnOf "want_many" "want_many" (defArgs s_want_many) (defBody s_want_many) (defScope s_want_many) .none kV22 dc22 pm22 an22 cd22 ct22), sl22⟩) (c22 : PySem.W.codeIn K cd22 "want_many" = true) (k22 : PySem.W.keepIn K (.ref f22) = true)
    (a23 : PySem.W.nsIn K mainGlobals "is_tree" = some (some (.ref f23))) (l23 : K.lookup f23 = some ⟨oc23, od23, .func (PySem.W.fnOf "is_tree" "is_tree" (defArgs s_is_tree) (defBody s_is_tree) (defScope s_is_tree) .none kV23 dc23 pm23 an23 cd23 ct23), sl23⟩) (c23 : PySem.W.codeIn K cd23 "is_tree" = true) (k23 : PySem.W.keepIn K (.ref f23) = true)
    (a24 : PySem.W.nsIn K mainGlobals "want_deeds" = some (some (.ref f24))) (l24 : K.lookup f24 = some ⟨oc24, od24, .func (PySem.W.fnOf "want_deeds" "want_deeds" (defArgs s_want_deeds) (defBody s_want_deeds) (defScope s_want_deeds) .none kV24 dc24 pm24 an24 cd24 ct24), sl24⟩) (c24 : PySem.W.codeIn K cd24 "want_deeds" = true) (k24 : PySem.W.keepIn K (.ref f24) = true)
    (a25 : PySem.W.nsIn K mainGlobals "want_tree" = some (some (.ref f25))) (l25 : K.lookup f25 = some ⟨oc25, od25, .func (PySem.W.fnOf "want_tree" "want_tree" (defArgs s_want_tree) (defBody s_want_tree) (defScope s_want_tree) .none kV25 dc25 pm25 an25 cd25 ct25), sl25⟩) (c25 : PySem.W.codeIn K cd25 "want_tree" = true) (k25 : PySem.W.keepIn K (.ref f25) = true)
    (a26 : PySem.W.nsIn K mainGlobals "folded_of" = some (some (.ref f26))) (l26 : K.lookup f26 = some ⟨oc26, od26, .func (PySem.W.fnOf "folded_of" "folded_of" (defArgs s_folded_of) (defBody s_folded_of) (defScope s_folded_of) .none kV26 dc26 pm26 an26 cd26 ct26), sl26⟩) (c26 : PySem.W.codeIn K cd26 "folded_of" = true) (k26 : PySem.W.keepIn K (.ref f26) = true)
    (a27 : PySem.W.nsIn K mainGlobals "folded" = some (some (.ref f27))) (l27 : K.lookup f27 = some ⟨oc27, od27, .func (PySem.W.fnOf "folded" "folded" (defArgs s_folded) (defBody s_folded) (defScope s_folded) .none kV27 dc27 pm27 an27 cd27 ct27), sl27⟩) (c27 : PySem.W.codeIn K cd27 "folded" = true) (k27 : PySem.W.keepIn K (.ref f27) = true)
    (a28 : PySem.W.nsIn K mainGlobals "shared_of" = some (some (.ref f28))) (l28 : K.lookup f28 = some ⟨oc28, od28, .func (PySem.W.fnOf "shared_of" "shared_of" (defArgs s_shared_of) (defBody s_shared_of) (defScope s_shared_of) .none kV28 dc28 pm28 an28 cd28 ct28), sl28⟩) (c28 : PySem.W.codeIn K cd28 "shared_of" = true) (k28 : PySem.W.keepIn K (.ref f28) = true)
    (a29 : PySem.W.nsIn K mainGlobals "shared_out" = some (some (.ref f29))) (l29 : K.lookup f29 = some ⟨oc29, od29, .func (PySem.W.fnOf "shared_out" "shared_out" (defArgs s_shared_out) (defBody s_shared_out) (defScope s_shared_out) .none kV29 dc29 pm29 an29 cd29 ct29), sl29⟩) (c29 : PySem.W.codeIn K cd29 "shared_out" = true) (k29 : PySem.W.keepIn K (.ref f29) = true)
    (a30 : PySem.W.nsIn K mainGlobals "_law_pot" = some (some (.ref f30))) (l30 : K.lookup f30 = some ⟨oc30, od30, .func (PySem.W.fnOf "_law_pot" "_law_pot" (defArgs s__law_pot) (defBody s__law_pot) (defScope s__law_pot) .none kV30 dc30 pm30 an30 cd30 ct30), sl30⟩) (c30 : PySem.W.codeIn K cd30 "_law_pot" = true) (k30 : PySem.W.keepIn K (.ref f30) = true)
    (a31 : PySem.W.nsIn K mainGlobals "_law_draw" = some (some (.ref f31))) (l31 : K.lookup f31 = some ⟨oc31, od31, .func (PySem.W.fnOf "_law_draw" "_law_draw" (defArgs s__law_draw) (defBody s__law_draw) (defScope s__law_draw) .none kV31 dc31 pm31 an31 cd31 ct31), sl31⟩) (c31 : PySem.W.codeIn K cd31 "_law_draw" = true) (k31 : PySem.W.keepIn K (.ref f31) = true)
    (a32 : PySem.W.nsIn K mainGlobals "_law_far" = some (some (.ref f32))) (l32 : K.lookup f32 = some ⟨oc32, od32, .func (PySem.W.fnOf "_law_far" "_law_far" (defArgs s__law_far) (defBody s__law_far) (defScope s__law_far) .none kV32 dc32 pm32 an32 cd32 ct32), sl32⟩) (c32 : PySem.W.codeIn K cd32 "_law_far" = true) (k32 : PySem.W.keepIn K (.ref f32) = true)
    (a33 : PySem.W.nsIn K mainGlobals "_law_number" = some (some (.ref f33))) (l33 : K.lookup f33 = some ⟨oc33, od33, .func (PySem.W.fnOf "_law_number" "_law_number" (defArgs s__law_number) (defBody s__law_number) (defScope s__law_number) .none kV33 dc33 pm33 an33 cd33 ct33), sl33⟩) (c33 : PySem.W.codeIn K cd33 "_law_number" = true) (k33 : PySem.W.keepIn K (.ref f33) = true)
    (a34 : PySem.W.nsIn K mainGlobals "_law_deed" = some (some (.ref f34))) (l34 : K.lookup f34 = some ⟨oc34, od34, .func (PySem.W.fnOf "_law_deed" "_law_deed" (defArgs s__law_deed) (defBody s__law_deed) (defScope s__law_deed) .none kV34 dc34 pm34 an34 cd34 ct34), sl34⟩) (c34 : PySem.W.codeIn K cd34 "_law_deed" = true) (k34 : PySem.W.keepIn K (.ref f34) = true)
    (a35 : PySem.W.nsIn K mainGlobals "_law_times" = some (some (.ref f35))) (l35 : K.lookup f35 = some ⟨oc35, od35, .func (PySem.W.fnOf "_law_times" "_law_times" (defArgs s__law_times) (defBody s__law_times) (defScope s__law_times) .none kV35 dc35 pm35 an35 cd35 ct35), sl35⟩) (c35 : PySem.W.codeIn K cd35 "_law_times" = true) (k35 : PySem.W.keepIn K (.ref f35) = true)
    (a36 : PySem.W.nsIn K mainGlobals "_law_told_deed" = some (some (.ref f36))) (l36 : K.lookup f36 = some ⟨oc36, od36, .func (PySem.W.fnOf "_law_told_deed" "_law_told_deed" (defArgs s__law_told_deed) (defBody s__law_told_deed) (defScope s__law_told_deed) .none kV36 dc36 pm36 an36 cd36 ct36), sl36⟩) (c36 : PySem.W.codeIn K cd36 "_law_told_deed" = true) (k36 : PySem.W.keepIn K (.ref f36) = true)
    (a37 : PySem.W.nsIn K mainGlobals "_law_done" = some (some (.ref f37))) (l37 : K.lookup f37 = some ⟨oc37, od37, .func (PySem.W.fnOf "_law_done" "_law_done" (defArgs s__law_done) (defBody s__law_done) (defScope s__law_done) .none kV37 dc37 pm37 an37 cd37 ct37), sl37⟩) (c37 : PySem.W.codeIn K cd37 "_law_done" = true) (k37 : PySem.W.keepIn K (.ref f37) = true)
    (a38 : PySem.W.nsIn K mainGlobals "_law_behind" = some (some (.ref f38))) (l38 : K.lookup f38 = some ⟨oc38, od38, .func (PySem.W.fnOf "_law_behind" "_law_behind" (defArgs s__law_behind) (defBody s__law_behind) (defScope s__law_behind) .none kV38 dc38 pm38 an38 cd38 ct38), sl38⟩) (c38 : PySem.W.codeIn K cd38 "_law_behind" = true) (k38 : PySem.W.keepIn K (.ref f38) = true)
    (a39 : PySem.W.nsIn K mainGlobals "_law_played" = some (some (.ref f39))) (l39 : K.lookup f39 = some ⟨oc39, od39, .func (PySem.W.fnOf "_law_played" "_law_played" (defArgs s__law_played) (defBody s__law_played) (defScope s__law_played) .none kV39 dc39 pm39 an39 cd39 ct39), sl39⟩) (c39 : PySem.W.codeIn K cd39 "_law_played" = true) (k39 : PySem.W.keepIn K (.ref f39) = true)
    (a40 : PySem.W.nsIn K mainGlobals "_law_together" = some (some (.ref f40))) (l40 : K.lookup f40 = some ⟨oc40, od40, .func (PySem.W.fnOf "_law_together" "_law_together" (defArgs s__law_together) (defBody s__law_together) (defScope s__law_together) .none kV40 dc40 pm40 an40 cd40 ct40), sl40⟩) (c40 : PySem.W.codeIn K cd40 "_law_together" = true) (k40 : PySem.W.keepIn K (.ref f40) = true)
    (a41 : PySem.W.nsIn K mainGlobals "_law_tree" = some (some (.ref f41))) (l41 : K.lookup f41 = some ⟨oc41, od41, .func (PySem.W.fnOf "_law_tree" "_law_tree" (defArgs s__law_tree) (defBody s__law_tree) (defScope s__law_tree) .none kV41 dc41 pm41 an41 cd41 ct41), sl41⟩) (c41 : PySem.W.codeIn K cd41 "_law_tree" = true) (k41 : PySem.W.keepIn K (.ref f41) = true)
    (a42 : PySem.W.nsIn K mainGlobals "_law_folds_right" = some (some (.ref f42))) (l42 : K.lookup f42 = some ⟨oc42, od42, .func (PySem.W.fnOf "_law_folds_right" "_law_folds_right" (defArgs s__law_folds_right) (defBody s__law_folds_right) (defScope s__law_folds_right) .none kV42 dc42 pm42 an42 cd42 ct42), sl42⟩) (c42 : PySem.W.codeIn K cd42 "_law_folds_right" = true) (k42 : PySem.W.keepIn K (.ref f42) = true)
    (a43 : PySem.W.nsIn K mainGlobals "_law_right" = some (some (.ref f43))) (l43 : K.lookup f43 = some ⟨oc43, od43, .func (PySem.W.fnOf "_law_right" "_law_right" (defArgs s__law_right) (defBody s__law_right) (defScope s__law_right) .none kV43 dc43 pm43 an43 cd43 ct43), sl43⟩) (c43 : PySem.W.codeIn K cd43 "_law_right" = true) (k43 : PySem.W.keepIn K (.ref f43) = true)
    (a44 : PySem.W.nsIn K mainGlobals "law" = some (some (.ref f44))) (l44 : K.lookup f44 = some ⟨oc44, od44, .func (PySem.W.fnOf "law" "law" (defArgs s_law) (defBody s_law) (defScope s_law) .none kV44 dc44 pm44 an44 cd44 ct44), sl44⟩) (c44 : PySem.W.codeIn K cd44 "law" = true) (k44 : PySem.W.keepIn K (.ref f44) = true)
    (z0 : PySem.W.nsIn K mainGlobals "all" = some none)
    (z1 : PySem.W.nsIn K mainGlobals "bool" = some none)
    (z2 : PySem.W.nsIn K mainGlobals "int" = some none)
    (z3 : PySem.W.nsIn K mainGlobals "isinstance" = some none)
    (z4 : PySem.W.nsIn K mainGlobals "len" = some none)
    (z5 : PySem.W.nsIn K mainGlobals "list" = some none)
    (z6 : PySem.W.nsIn K mainGlobals "max" = some none)
    (z7 : PySem.W.nsIn K mainGlobals "min" = some none)
    (z8 : PySem.W.nsIn K mainGlobals "range" = some none)
    (z9 : PySem.W.nsIn K mainGlobals "repr" = some none)
    (z10 : PySem.W.nsIn K mainGlobals "tuple" = some none)
    (z11 : PySem.W.nsIn K mainGlobals "zip" = some none)
    {tc0_0 : Tok} {ga0 : Addr} {gd0 : Option Addr} {gn0 : Nat} {gs0 : Array (Option Value)} (cst0 : PySem.W.nsIn K mainGlobals "LOOK" = some (some (.ref ga0))) (cstl0 : K.lookup ga0 = some ⟨.type "tuple", gd0, .seq #[.int 0 tc0_0, .none, .none] gn0, gs0⟩)
    {tc1 : Tok} (cst1 : PySem.W.nsIn K mainGlobals "MOST_BOXES" = some (some (.int (16) tc1)))
    {tc2 : Tok} (cst2 : PySem.W.nsIn K mainGlobals "HANDS" = some (some (.int (16) tc2)))
    {tc3 : Tok} (cst3 : PySem.W.nsIn K mainGlobals "MOST_DEEDS" = some (some (.int (40) tc3)))
    : AllD K mg := by
  exact ⟨Df.of l1 c1 k1 (PySem.W.mg_of X G a1) (fun _ _ _ _ _ _ us hl => match us, hl with | [_], _ => rfl), Df.of l2 c2 k2 (PySem.W.mg_of X G a2) (fun _ _ _ _ _ _ us hl => match us, hl with | [_, _, _], _ => rfl), Df.of l3 c3 k3 (PySem.W.mg_of X G a3) (fun _ _ _ _ _ _ us hl => match us, hl with | [_, _], _ => rfl), Df.of l4 c4 k4 (PySem.W.mg_of X G a4) (fun _ _ _ _ _ _ us hl => match us, hl with | [_], _ => rfl), Df.of l5 c5 k5 (PySem.W.mg_of X G a5) (fun _ _ _ _ _ _ us hl => match us, hl with | [_, _, _], _ => rfl), Df.of l6 c6 k6 (PySem.W.mg_of X G a6) (fun _ _ _ _ _ _ us hl => match us, hl with | [_, _], _ => rfl), Df.of l7 c7 k7 (PySem.W.mg_of X G a7) (fun _ _ _ _ _ _ us hl => match us, hl with | [_], _ => rfl), Df.of l8 c8 k8 (PySem.W.mg_of X G a8) (fun _ _ _ _ _ _ us hl => match us, hl with | [_], _ => rfl), Df.of l9 c9 k9 (PySem.W.mg_of X G a9) (fun _ _ _ _ _ _ us hl => match us, hl with | [_], _ => rfl), Df.of l10 c10 k10 (PySem.W.mg_of X G a10) (fun _ _ _ _ _ _ us hl => match us, hl with | [_, _], _ => rfl), Df.of l11 c11 k11 (PySem.W.mg_of X G a11) (fun _ _ _ _ _ _ us hl => match us, hl with | [_, _, _], _ => rfl), Df.of l12 c12 k12 (PySem.W.mg_of X G a12) (fun _ _ _ _ _ _ us hl => match us, hl with | [_, _], _ => rfl), Df.of l13 c13 k13 (PySem.W.mg_of X G a13) (fun _ _ _ _ _ _ us hl => match us, hl with | [_, _], _ => rfl), Df.of l14 c14 k14 (PySem.W.mg_of X G a14) (fun _ _ _ _ _ _ us hl => match us, hl with | [_], _ => rfl), Df.of l15 c15 k15 (PySem.W.mg_of X G a15) (fun _ _ _ _ _ _ us hl => match us, hl with | [_], _ => rfl), Df.of l16 c16 k16 (PySem.W.mg_of X G a16) (fun _ _ _ _ _ _ us hl => match us, hl with | [_, _], _ => rfl), Df.of l17 c17 k17 (PySem.W.mg_of X G a17) (fun _ _ _ _ _ _ us hl => match us, hl with | [_, _], _ => rfl), Df.of l18 c18 k18 (PySem.W.mg_of X G a18) (fun _ _ _ _ _ _ us hl => match us, hl with | [_, _], _ => rfl), Df.of l19 c19 k19 (PySem.W.mg_of X G a19) (fun _ _ _ _ _ _ us hl => match us, hl with | [_, _], _ => rfl), Df.of l20 c20 k20 (PySem.W.mg_of X G a20) (fun _ _ _ _ _ _ us hl => match us, hl with | [_, _], _ => rfl), Df.of l21 c21 k21 (PySem.W.mg_of X G a21) (fun _ _ _ _ _ _ us hl => match us, hl with | [_, _], _ => rfl), Df.of l22 c22 k22 (PySem.W.mg_of X G a22) (fun _ _ _ _ _ _ us hl => match us, hl with | [_], _ => rfl), Df.of l23 c23 k23 (PySem.W.mg_of X G a23) (fun _ _ _ _ _ _ us hl => match us, hl with | [_, _], _ => rfl), Df.of l24 c24 k24 (PySem.W.mg_of X G a24) (fun _ _ _ _ _ _ us hl => match us, hl with | [_], _ => rfl), Df.of l25 c25 k25 (PySem.W.mg_of X G a25) (fun _ _ _ _ _ _ us hl => match us, hl with | [_, _], _ => rfl), Df.of l26 c26 k26 (PySem.W.mg_of X G a26) (fun _ _ _ _ _ _ us hl => match us, hl with | [_, _], _ => rfl), Df.of l27 c27 k27 (PySem.W.mg_of X G a27) (fun _ _ _ _ _ _ us hl => match us, hl with | [_, _], _ => rfl), Df.of l28 c28 k28 (PySem.W.mg_of X G a28) (fun _ _ _ _ _ _ us hl => match us, hl with | [_, _, _], _ => rfl), Df.of l29 c29 k29 (PySem.W.mg_of X G a29) (fun _ _ _ _ _ _ us hl => match us, hl with | [_, _, _], _ => rfl), Df.of l30 c30 k30 (PySem.W.mg_of X G a30) (fun _ _ _ _ _ _ us hl => match us, hl with | [_, _], _ => rfl), Df.of l31 c31 k31 (PySem.W.mg_of X G a31) (fun _ _ _ _ _ _ us hl => match us, hl with | [_, _], _ => rfl), Df.of l32 c32 k32 (PySem.W.mg_of X G a32) (fun _ _ _ _ _ _ us hl => match us, hl with | [_], _ => rfl), Df.of l33 c33 k33 (PySem.W.mg_of X G a33) (fun _ _ _ _ _ _ us hl => match us, hl with | [_], _ => rfl), Df.of l34 c34 k34 (PySem.W.mg_of X G a34) (fun _ _ _ _ _ _ us hl => match us, hl with | [_], _ => rfl), Df.of l35 c35 k35 (PySem.W.mg_of X G a35) (fun _ _ _ _ _ _ us hl => match us, hl with | [_], _ => rfl), Df.of l36 c36 k36 (PySem.W.mg_of X G a36) (fun _ _ _ _ _ _ us hl => match us, hl with | [_], _ => rfl), Df.of l37 c37 k37 (PySem.W.mg_of X G a37) (fun _ _ _ _ _ _ us hl => match us, hl with | [_, _], _ => rfl), Df.of l38 c38 k38 (PySem.W.mg_of X G a38) (fun _ _ _ _ _ _ us hl => match us, hl with | [_, _], _ => rfl), Df.of l39 c39 k39 (PySem.W.mg_of X G a39) (fun _ _ _ _ _ _ us hl => match us, hl with | [_, _], _ => rfl), Df.of l40 c40 k40 (PySem.W.mg_of X G a40) (fun _ _ _ _ _ _ us hl => match us, hl with | [_, _], _ => rfl), Df.of l41 c41 k41 (PySem.W.mg_of X G a41) (fun _ _ _ _ _ _ us hl => match us, hl with | [_, _, _, _], _ => rfl), Df.of l42 c42 k42 (PySem.W.mg_of X G a42) (fun _ _ _ _ _ _ us hl => match us, hl with | [_, _, _], _ => rfl), Df.of l43 c43 k43 (PySem.W.mg_of X G a43) (fun _ _ _ _ _ _ us hl => match us, hl with | [_], _ => rfl), Df.of l44 c44 k44 (PySem.W.mg_of X G a44) (fun _ _ _ _ _ _ us hl => match us, hl with | [_], _ => rfl), ⟨PySem.W.mg_none_of X G z0, PySem.W.mg_none_of X G z1, PySem.W.mg_none_of X G z2, PySem.W.mg_none_of X G z3, PySem.W.mg_none_of X G z4, PySem.W.mg_none_of X G z5, PySem.W.mg_none_of X G z6, PySem.W.mg_none_of X G z7, PySem.W.mg_none_of X G z8, PySem.W.mg_none_of X G z9, PySem.W.mg_none_of X G z10, PySem.W.mg_none_of X G z11, ⟨_, PySem.W.mg_of X G cst0, _, _, _, cstl0, rfl, rfl, by show 3 ≤ sizeLine; decide, (.cons ⟨_, rfl⟩ (.cons rfl (.cons rfl .nil)))⟩, ⟨_, PySem.W.mg_of X G cst1⟩, ⟨_, PySem.W.mg_of X G cst2⟩, ⟨_, PySem.W.mg_of X G cst3⟩⟩⟩

theorem law_fd {P : Program} {w : World} {K : PySem.W.Frag} {mg : Str → Option Value} {fa : Addr} (A : AllD K mg) (hfa : mg "law" = some (.ref fa)) :
    ∃ fd : FuncData, (∀ (s : Shared) (v : Value), BindsTo s fd ⟨[v], []⟩ [("_law_script", v)]) ∧ ∀ base : Heap, K.In base → base.Ns mainGlobals mg → FnG P w K mg base CX0 51 fa fd ["_law_script"] (spLaw K) := by
  obtain ⟨f, fd, F, m, b⟩ := A.d_law.ex
  have e := hfa.symm.trans m
  cases e
  refine ⟨fd, fun s v => by obtain ⟨oc, od, kV, doc, pm, an, cdv, ct, osl, rfl, lk, hcd⟩ := F.ex; exact .of_eq rfl, fun base _ _ => ?_⟩
  have B := A.bl
  have D_is_whole : Dn P w K mg base 1 "is_whole" ["thing"] spIsWhole := k_is_whole B A.d_is_whole 
  have D_is_row_of : Dn P w K mg base 1 "is_row_of" ["thing", "many"] (spIsRow K) := k_is_row_of B A.d_is_row_of 
  have D_want_whole : Dn P w K mg base 2 "want_whole" ["thing"] spWantWhole := k_want_whole B A.d_want_whole D_is_whole
  have D_is_end : Dn P w K mg base 2 "is_end" ["thing"] spIsEnd := k_is_end B A.d_is_end D_is_whole
  have D_is_deed : Dn P w K mg base 3 "is_deed" ["thing"] (spIsDeed K) := k_is_deed B A.d_is_deed D_is_whole D_is_row_of D_is_end
  have D_want_deed : Dn P w K mg base 4 "want_deed" ["thing"] (spWantDeed K) := k_want_deed B A.d_want_deed D_is_deed
  have D_put_through : Dn P w K mg base 1 "put_through" ["deed", "value"] (spPut K) := k_put_through B A.d_put_through 
  have D_whole_deed : Dn P w K mg base 1 "whole_deed" ["add", "low", "high"] spWholeDeed := k_whole_deed B A.d_whole_deed 
  have D_one_behind : Dn P w K mg base 2 "one_behind" ["one", "other"] (spBehind K) := k_one_behind B A.d_one_behind D_put_through D_whole_deed
  have D_want_from : Dn P w K mg base 2 "want_from" ["thing", "least"] spWantFrom := k_want_from B A.d_want_from D_is_whole
  have D_again : Dn P w K mg base 5 "again" ["deed", "many"] (spAgain K) := k_again B A.d_again D_want_from D_want_deed D_whole_deed
  have D_is_within : Dn P w K mg base 2 "is_within" ["thing", "least", "most"] spIsWithin := k_is_within B A.d_is_within D_is_whole
  have D_want_within : Dn P w K mg base 3 "want_within" ["thing", "least", "most"] spWantWithin := k_want_within B A.d_want_within D_is_within
  have D_want_many : Dn P w K mg base 4 "want_many" ["many"] spWantMany := k_want_many B A.d_want_many D_want_within
  have D_is_board : Dn P w K mg base 2 "is_board" ["thing"] (spIsBoard K) := k_is_board B A.d_is_board D_is_whole
  have D_want_board : Dn P w K mg base 3 "want_board" ["board"] (spWantBoard K) := k_want_board B A.d_want_board D_is_board
  have D_is_ask : Dn P w K mg base 4 "is_ask" ["board", "thing"] (spIsAsk K) := k_is_ask B A.d_is_ask D_is_whole D_is_deed
  have D_are_asks : Dn P w K mg base 5 "are_asks" ["board", "thing"] (spAreAsks K) := k_are_asks B A.d_are_asks D_want_board D_is_ask
  have D_want_asks : Dn P w K mg base 6 "want_asks" ["board", "asks"] (spWantAsks K) := k_want_asks B A.d_want_asks D_are_asks
  have D_played : Dn P w K mg base 7 "played" ["board", "asks"] (spPlay K) := k_played B A.d_played D_want_asks D_put_through
  have D_all_of : Dn P w K mg base 7 "all_of" ["board", "asks"] (spAll K) := k_all_of B A.d_all_of D_want_asks D_one_behind
  have D_ahead_of : Dn P w K mg base 7 "ahead_of" ["board", "asks"] (spAhead K) := k_ahead_of B A.d_ahead_of D_want_asks D_one_behind
  have D_is_tree : Dn P w K mg base 5 "is_tree" ["thing", "many"] spIsTree := k_is_tree B A.d_is_tree D_want_many D_is_whole
  have D_want_tree : Dn P w K mg base 6 "want_tree" ["tree", "many"] spWantTree := k_want_tree B A.d_want_tree D_is_tree
  have D_want_deeds : Dn P w K mg base 4 "want_deeds" ["deeds"] (spWantDeeds K) := k_want_deeds B A.d_want_deeds D_is_deed
  have D_folded_of : Dn P w K mg base 42 "folded_of" ["deeds", "tree"] ((spFolded K) 40) := k_folded_of B A.d_folded_of D_one_behind
  have D_folded : Dn P w K mg base 45 "folded" ["deeds", "tree"] (spFold K) := k_folded B A.d_folded D_want_deeds D_want_tree D_folded_of
  have D_shared_of : Dn P w K mg base 42 "shared_of" ["deeds", "tree", "value"] ((spShared K) 40) := k_shared_of B A.d_shared_of D_put_through D_one_behind
  have D_shared_out : Dn P w K mg base 46 "shared_out" ["deeds", "tree", "value"] (spShare K) := k_shared_out B A.d_shared_out D_want_whole D_want_deeds D_want_tree D_shared_of
  have D__law_pot : Dn P w K mg base 1 "_law_pot" ["_law_script", "_law_k"] (spPot2 K) := k__law_pot B A.d__law_pot 
  have D__law_draw : Dn P w K mg base 1 "_law_draw" ["_law_pot_here", "_law_many"] spTake := k__law_draw B A.d__law_draw 
  have D__law_done : Dn P w K mg base 1 "_law_done" ["_law_deed_here", "_law_value"] (spPut K) := k__law_done B A.d__law_done 
  have D__law_behind : Dn P w K mg base 2 "_law_behind" ["_law_one", "_law_other"] (spBehind K) := k__law_behind B A.d__law_behind D__law_done
  have D__law_tree : Dn P w K mg base 42 "_law_tree" ["_law_pot_here", "_law_first", "_law_many", "_law_choice"] (spLT 40) := k__law_tree B A.d__law_tree D__law_draw
  have D__law_far : Dn P w K mg base 2 "_law_far" ["_law_pot_here"] spFar := k__law_far B A.d__law_far D__law_draw
  have D__law_number : Dn P w K mg base 3 "_law_number" ["_law_pot_here"] spNumber := k__law_number B A.d__law_number D__law_draw D__law_far
  have D__law_deed : Dn P w K mg base 4 "_law_deed" ["_law_pot_here"] spDeed := k__law_deed B A.d__law_deed D__law_draw D__law_number
  have D__law_times : Dn P w K mg base 3 "_law_times" ["_law_pot_here"] spTimes := k__law_times B A.d__law_times D__law_draw D__law_far
  have D__law_told_deed : Dn P w K mg base 6 "_law_told_deed" ["_law_pot_here"] (spToldD K) := k__law_told_deed B A.d__law_told_deed D__law_draw D__law_deed D__law_times D_again D_is_deed
  have D__law_together : Dn P w K mg base 8 "_law_together" ["_law_board", "_law_asks"] (spTog K) := k__law_together B A.d__law_together D__law_behind
  have D__law_played : Dn P w K mg base 7 "_law_played" ["_law_board", "_law_asks"] (spPlay K) := k__law_played B A.d__law_played D__law_done
  have D__law_folds_right : Dn P w K mg base 47 "_law_folds_right" ["_law_deeds", "_law_tree_here", "_law_value"] (spFR K) := k__law_folds_right B A.d__law_folds_right D__law_behind D__law_done D_folded D_shared_out
  have D__law_right : Dn P w K mg base 50 "_law_right" ["_law_pot_here"] (spRight K) := k__law_right B A.d__law_right D__law_draw D__law_number D__law_told_deed D_is_deed D_are_asks D_played D_is_board D__law_played D_all_of D_ahead_of D__law_together D__law_tree D__law_folds_right
  exact k_law B F D__law_pot D__law_right

theorem walk {l : PySem.W.OpenLaw} {q : Program} {loose : List Str} {XP : (Str → Option Value) → Heap → Prop} {YP : World → Heap → Prop} {d : DefRec} {K : Params → PySem.W.Frag} (hn : l.most = some 63) (hdf : d.params.defaults = [])
    (hY : ∀ (w : World) (h : Heap), YP w h → (K w.params).In h) (hname : d.name = "law") (F : ∀ (w : World) (mg : Str → Option Value) (h : Heap), (K w.params).In h → h.Ns mainGlobals mg → AllD (K w.params) mg) :
    PySem.W.WalkO q loose XP YP l.row.toRowW d [] (fun f vs => PySem.call f vs) :=
  walk_G (n := 63) (k := 51) (x := "_law_script") (sp := spLaw) hn (by decide) hdf ⟨rfl, by decide, by decide⟩ hY
    (fun w mg fa h KX G hfa => law_fd (F w mg h KX G) (by rw [hname] at hfa; exact hfa)) fun _ _ a ns hl hS => ⟨a, ns, rfl, hS, hl, fun _ => rfl⟩
end Toy
open PySem PySem.W PyProof.Rows
set_option maxRecDepth 100000 in
set_option maxHeartbeats 0 in
theorem PySem.Challenge.cw_joinedasks_k29_whole_told_ones_handed_on_holds : PySem.Challenge.rw_joinedasks_k29_whole_told_ones_handed_on.Holds := by
  w_on; o_law; k_head; (case hw => w_witness2)
  k_fill
  refine Toy.walk (l := PySem.Challenge.rw_joinedasks_k29_whole_told_ones_handed_on) rfl rfl (fun w h Y => PySem.W.kIn_of Y) rfl ?F
  case F =>
    intro w mg h KX G
    refine' Toy.all_mk (w := w) KX G ?a1 ?l1 ?c1 ?k1 ?a2 ?l2 ?c2 ?k2 ?a3 ?l3 ?c3 ?k3 ?a4 ?l4 ?c4 ?k4 ?a5 ?l5 ?c5 ?k5 ?a6 ?l6 ?c6 ?k6 ?a7 ?l7 ?c7 ?k7 ?a8 ?l8 ?c8 ?k8 ?a9 ?l9 ?c9 ?k9 ?a10 ?l10 ?c10 ?k10 ?a11 ?l11 ?c11 ?k11 ?a12 ?l12 ?c12 ?k12 ?a13 ?l13 ?c13 ?k13 ?a14 ?l14 ?c14 ?k14 ?a15 ?l15 ?c15 ?k15 ?a16 ?l16 ?c16 ?k16 ?a17 ?l17 ?c17 ?k17 ?a18 ?l18 ?c18 ?k18 ?a19 ?l19 ?c19 ?k19 ?a20 ?l20 ?c20 ?k20 ?a21 ?l21 ?c21 ?k21 ?a22 ?l22 ?c22 ?k22 ?a23 ?l23 ?c23 ?k23 ?a24 ?l24 ?c24 ?k24 ?a25 ?l25 ?c25 ?k25 ?a26 ?l26 ?c26 ?k26 ?a27 ?l27 ?c27 ?k27 ?a28 ?l28 ?c28 ?k28 ?a29 ?l29 ?c29 ?k29 ?a30 ?l30 ?c30 ?k30 ?a31 ?l31 ?c31 ?k31 ?a32 ?l32 ?c32 ?k32 ?a33 ?l33 ?c33 ?k33 ?a34 ?l34 ?c34 ?k34 ?a35 ?l35 ?c35 ?k35 ?a36 ?l36 ?c36 ?k36 ?a37 ?l37 ?c37 ?k37 ?a38 ?l38 ?c38 ?k38 ?a39 ?l39 ?c39 ?k39 ?a40 ?l40 ?c40 ?k40 ?a41 ?l41 ?c41 ?k41 ?a42 ?l42 ?c42 ?k42 ?a43 ?l43 ?c43 ?k43 ?a44 ?l44 ?c44 ?k44 ?z0 ?z1 ?z2 ?z3 ?z4 ?z5 ?z6 ?z7 ?z8 ?z9 ?z10 ?z11 ?cst0 ?cstl0 ?cst1 ?cst2 ?cst3
    (case a1 => k_is)
    (case l1 => k_is)
    (case c1 => k_is)
    (case k1 => k_is)
    (case a2 => k_is)
    (case l2 => k_is)
    (case c2 => k_is)
    (case k2 => k_is)
    (case a3 => k_is)
    (case l3 => k_is)
    (case c3 => k_is)
    (case k3 => k_is)
    (case a4 => k_is)
    (case l4 => k_is)
    (case c4 => k_is)
    (case k4 => k_is)
    (case a5 => k_is)
    (case l5 => k_is)
    (case c5 => k_is)
    (case k5 => k_is)
    (case a6 => k_is)
    (case l6 => k_is)
    (case c6 => k_is)
    (case k6 => k_is)
    (case a7 => k_is)
    (case l7 => k_is)
    (case c7 => k_is)
    (case k7 => k_is)
    (case a8 => k_is)
    (case l8 => k_is)
    (case c8 => k_is)
    (case k8 => k_is)
    (case a9 => k_is)
    (case l9 => k_is)
    (case c9 => k_is)
    (case k9 => k_is)
    (case a10 => k_is)
    (case l10 => k_is)
    (case c10 => k_is)
    (case k10 => k_is)
    (case a11 => k_is)
    (case l11 => k_is)
    (case c11 => k_is)
    (case k11 => k_is)
    (case a12 => k_is)
    (case l12 => k_is)
    (case c12 => k_is)
    (case k12 => k_is)
    (case a13 => k_is)
    (case l13 => k_is)
    (case c13 => k_is)
    (case k13 => k_is)
    (case a14 => k_is)
    (case l14 => k_is)
    (case c14 => k_is)
    (case k14 => k_is)
    (case a15 => k_is)
    (case l15 => k_is)
    (case c15 => k_is)
    (case k15 => k_is)
    (case a16 => k_is)
    (case l16 => k_is)
    (case c16 => k_is)
    (case k16 => k_is)
    (case a17 => k_is)
    (case l17 => k_is)
    (case c17 => k_is)
    (case k17 => k_is)
    (case a18 => k_is)
    (case l18 => k_is)
    (case c18 => k_is)
    (case k18 => k_is)
    (case a19 => k_is)
    (case l19 => k_is)
    (case c19 => k_is)
    (case k19 => k_is)
    (case a20 => k_is)
    (case l20 => k_is)
    (case c20 => k_is)
    (case k20 => k_is)
    (case a21 => k_is)
    (case l21 => k_is)
    (case c21 => k_is)
    (case k21 => k_is)
    (case a22 => k_is)
    (case l22 => k_is)
    (case c22 => k_is)
    (case k22 => k_is)
    (case a23 => k_is)
    (case l23 => k_is)
    (case c23 => k_is)
    (case k23 => k_is)
    (case a24 => k_is)
    (case l24 => k_is)
    (case c24 => k_is)
    (case k24 => k_is)
    (case a25 => k_is)
    (case l25 => k_is)
    (case c25 => k_is)
    (case k25 => k_is)
    (case a26 => k_is)
    (case l26 => k_is)
    (case c26 => k_is)
    (case k26 => k_is)
    (case a27 => k_is)
    (case l27 => k_is)
    (case c27 => k_is)
    (case k27 => k_is)
    (case a28 => k_is)
    (case l28 => k_is)
    (case c28 => k_is)
    (case k28 => k_is)
    (case a29 => k_is)
    (case l29 => k_is)
    (case c29 => k_is)
    (case k29 => k_is)
    (case a30 => k_is)
    (case l30 => k_is)
    (case c30 => k_is)
    (case k30 => k_is)
    (case a31 => k_is)
    (case l31 => k_is)
    (case c31 => k_is)
    (case k31 => k_is)
    (case a32 => k_is)
    (case l32 => k_is)
    (case c32 => k_is)
    (case k32 => k_is)
    (case a33 => k_is)
    (case l33 => k_is)
    (case c33 => k_is)
    (case k33 => k_is)
    (case a34 => k_is)
    (case l34 => k_is)
    (case c34 => k_is)
    (case k34 => k_is)
    (case a35 => k_is)
    (case l35 => k_is)
    (case c35 => k_is)
    (case k35 => k_is)
    (case a36 => k_is)
    (case l36 => k_is)
    (case c36 => k_is)
    (case k36 => k_is)
    (case a37 => k_is)
    (case l37 => k_is)
    (case c37 => k_is)
    (case k37 => k_is)
    (case a38 => k_is)
    (case l38 => k_is)
    (case c38 => k_is)
    (case k38 => k_is)
    (case a39 => k_is)
    (case l39 => k_is)
    (case c39 => k_is)
    (case k39 => k_is)
    (case a40 => k_is)
    (case l40 => k_is)
    (case c40 => k_is)
    (case k40 => k_is)
    (case a41 => k_is)
    (case l41 => k_is)
    (case c41 => k_is)
    (case k41 => k_is)
    (case a42 => k_is)
    (case l42 => k_is)
    (case c42 => k_is)
    (case k42 => k_is)
    (case a43 => k_is)
    (case l43 => k_is)
    (case c43 => k_is)
    (case k43 => k_is)
    (case a44 => k_is)
    (case l44 => k_is)
    (case c44 => k_is)
    (case k44 => k_is)
    (case z0 => k_is)
    (case z1 => k_is)
    (case z2 => k_is)
    (case z3 => k_is)
    (case z4 => k_is)
    (case z5 => k_is)
    (case z6 => k_is)
    (case z7 => k_is)
    (case z8 => k_is)
    (case z9 => k_is)
    (case z10 => k_is)
    (case z11 => k_is)
    (case cst0 => k_is)
    (case cstl0 => k_is)
    (case cst1 => k_is)
    (case cst2 => k_is)
    (case cst3 => k_is)
#print axioms PySem.Challenge.cw_joinedasks_k29_whole_told_ones_handed_on_holds

