import PyProof.Rows.All
import Wide.All
import OpenK.AllK
import Wide.FinOn
import HandS.ForMost
import HandS.Defaults
import HandS.WideBits
import HandS.Conv
import HandS.IsInst
import HandS.RaiseMore
import HandS.SortInts
import HandS.Style
import HandS.Codes
import HandS.ForExc
import HandS.TryMany
import HandS.Flow
import KE.KEqSeq
import PyProof.ReprRoads
import KE.GoesMore
import KE.KDictZip
import PyProof.ListNew
import HandS.Zip
import HandS.TryOnly
import HandS.ExcIs
import KE.KDictDisplayH
import HandS.TupLen
import KE.KDictSum
import HandS.TupAny
import PySem.Challenge.RW_joinedasks_k32_whole_meet_and_part
set_option Elab.async false
set_option linter.all false
set_option maxRecDepth 100000
set_option maxHeartbeats 4000000
set_option exponentiation.threshold 100000
namespace Toy
open PySem PySem.Spec PyProof.Rows L2
/-- a def of the text stands behind its name -/
structure Df (K : PySem.W.Frag) (mg : Str → Option Value) (x : Str) (st : Stmt) (ps : List Str) : Prop where
  ex : ∃ f fd, Fun K x x st f fd ∧ mg x = some (.ref f) ∧ Binds K fd ps []
theorem Df.of {K : PySem.W.Frag} {mg : Str → Option Value} {x : Str} {st : Stmt} {ps : List Str} {f : Addr} {oc : Value} {od an : Option Addr} {osl : Array (Option Value)} {kV doc pm cdv ct : Value}
    (l : K.lookup f = some ⟨oc, od, .func (PySem.W.fnOf x x (defArgs st) (defBody st) (defScope st) .none kV doc pm an cdv ct), osl⟩) (c : PySem.W.codeIn K cdv x = true) (k : PySem.W.keepIn K (.ref f) = true) (m : mg x = some (.ref f))
    (h : ∀ (kV doc pm : Value) (an : Option Addr) (cdv ct : Value) (us : List Value), us.length = ps.length → bindArgs (PySem.W.fnOf x x (defArgs st) (defBody st) (defScope st) .none kV doc pm an cdv ct) ⟨us, []⟩ = pure (ps.zip us)) : Df K mg x st ps :=
  ⟨_, _, fun_mk l c k, m, (fun_mk l c k).binds h⟩
end Toy
namespace Toy
open PySem PySem.Spec PyProof.Rows L2
/-- room for calls, and nothing is being shown (repr, str of containers ask that) -/
structure RoomG (k : Nat) (A : Around) : Prop where
  room : Room k A
  idle : A.guards = some []
theorem RoomG.less {j k : Nat} {A : Around} (r : RoomG k A) (h : j ≤ k) : RoomG j A := ⟨r.room.mono h, r.idle⟩
theorem RoomG.units {k : Nat} {A : Around} (r : RoomG k A) : A.units + 64 < cLine := r.room.units
theorem RoomG.in_ {k : Nat} {A : Around} (r : RoomG (k + 1) A) (env : Env) : RoomG k (A.deeper env) := ⟨r.room.deeper env, r.idle⟩
/-- a def's promise under such a call -/
structure FnG (P : Program) (w : World) (K : PySem.W.Frag) (mg : Str → Option Value) (base : Heap) (CX : CXT) (k : Nat) (f : Addr) (fd : FuncData) (ps : List Str) (sp : Sp) : Prop where
  arity : ∀ vs H Q E, sp vs H Q E → vs.length = ps.length
  go : ∀ {A : Around} {outer : List Env} {s : Shared} {H : Hp} {args : Args} {us : List Value} {vs : List V} {Q : VK} {E : XK}, RoomG k A → Env0 P w K mg base A outer s H →
    BindsTo s fd args (ps.zip us) → Vals vs us → sp vs H Q E → codeAny (model P w) A (.call (.ref f) args) (CR CX outer P w H s Q E) s
section
variable {P : Program} {w : World} {K : PySem.W.Frag} {mg : Str → Option Value} {base : Heap} {CX : CXT}
/-- a body that ends well ends the call well -/
theorem flow_end {N : List Str} {qual : Str} {scope : Scope} {f : Addr} {cd : Value} {A : Around} {outer : List Env} {s : Shared} {H : Hp} {Q : VK} {E : XK} {fl : Flow} {s' : Shared}
    (h : SP (cxOf CX P w K mg base N qual scope f cd A outer s H E) [] { nx := fun _ H' => Q .non H', rt := Q } fl s') :
    ∃ u, (fl = .next ∧ u = Value.none ∨ fl = .ret u) ∧ CE outer P w H s Q u s' := by
  cases fl with
  | next =>
    obtain ⟨σ, H1, J, q⟩ := h
    exact ⟨_, .inl ⟨rfl, rfl⟩, .non, H1, J.os, J.bare, J.base, J.hok, rfl, q⟩
  | ret u =>
    obtain ⟨v, σ, H1, J, r, q⟩ := h
    exact ⟨u, .inr rfl, v, H1, J.os, J.bare, J.base, J.hok, r, q⟩
  | brk =>
    obtain ⟨_, _, _, q⟩ := h
    cases q
  | cont =>
    obtain ⟨_, _, _, q⟩ := h
    cases q
/-- a def of the text, whatever its defaults -/
structure FunA (K : PySem.W.Frag) (x qual : Str) (st : Stmt) (f : Addr) (fd : FuncData) : Prop where
  ex : ∃ (oc : Value) (od : Option Addr) (dV kV doc pm : Value) (an : Option Addr) (cdv ct : Value) (osl : Array (Option Value)),
    fd = PySem.W.fnOf x qual (defArgs st) (defBody st) (defScope st) dV kV doc pm an cdv ct ∧ K.lookup f = some ⟨oc, od, .func fd, osl⟩ ∧ PySem.W.codeIn K cdv qual = true
theorem toA {K : PySem.W.Frag} {x qual : Str} {st : Stmt} {f : Addr} {fd : FuncData} (F : Fun K x qual st f fd) : FunA K x qual st f fd := by
  obtain ⟨oc, od, kV, doc, pm, an, cdv, ct, osl, e, lk, hcd⟩ := F.ex
  exact ⟨⟨oc, od, .none, kV, doc, pm, an, cdv, ct, osl, e, lk, hcd⟩⟩
theorem okGA {x qual : Str} {st : Stmt} {f : Addr} {fd : FuncData} {N ps : List Str} {k : Nat} {sp : Sp} (F : FunA K x qual st f fd) (S : FnScope N ps (defScope st)) (ar : ∀ vs H Q E, sp vs H Q E → vs.length = ps.length)
    (body : ∀ (cdv : Value) (A : Around) (outer : List Env) (s : Shared) (H : Hp) (vs : List V) (Q : VK) (E : XK), RoomG k (A.deeper (envOfC qual (defScope st) s.heap.objs.size f cdv)) → sp vs H Q E →
      ∃ t, PSs (cxOf CX P w K mg base N qual (defScope st) f cdv A outer s H E) (defBody st) t ∧ t { nx := fun _ H' => Q .non H', rt := Q } (start N vs) H) : FnG P w K mg base CX (k + 1) f fd ps sp := by
  obtain ⟨oc, od, dV, kV, doc, pm, an, cdv, ct, osl, rfl, lk, hcd⟩ := F.ex
  refine ⟨ar, ?_⟩
  intro A outer s H args us vs Q E room e0 hb rv hsp
  have kin : K.In s.heap := e0.mod.kin.keeps fun b o z => (e0.bs b o z).1
  have nolim : s.heap.NoLimit := e0.mod.nolimit.keeps fun b o z => (e0.bs b o z).1
  have kinds : ∀ y ∈ ps.zip us, (defScope st).names.lookup y.1 = some .local ∨ ((defScope st).names.lookup y.1 = some .cell ∧ ((cellsFrom (s.heap.objs.size + 1) (defScope st).names []).lookup y.1).isSome = true) := by
    rintro ⟨n, v⟩ hy
    exact (S.par n (List.of_mem_zip hy).1).imp _root_.id fun q => ⟨q, PySem.W.cellsFrom_some _ _ _ (.inl q)⟩
  refine codeAny_call_function room.room.depth (kin _ _ lk) rfl S.co S.gen rfl (PySem.W.codeRec_of kin hcd) (hb _ _ _ _ (wpAny_newFunctionEnv_cells S.kind kinds fun env he s1 inC => ?_))
  subst he
  obtain ⟨t, ht, hq⟩ := body cdv A outer s H vs Q E (room.in_ _) hsp
  refine ⟨nolim.keeps inC.toInCall.keep, codeAny_func (wpAny_mono (ht.run [] s1 (start N vs) H _ (inv_start S room.room.hd e0 (ar _ _ _ _ hsp) rv inC) hq) (fun fl s' z => ?_) fun e s' z => z)⟩
  obtain ⟨u, c, q⟩ := flow_end z
  rcases c with ⟨rfl, rfl⟩ | rfl
  · exact q
  · exact q
theorem okG0A {x qual : Str} {st : Stmt} {f : Addr} {fd : FuncData} {N ps : List Str} {k : Nat} {sp : Sp} (F : FunA K x qual st f fd) (S : FnScope N ps (defScope st)) (ar : ∀ vs H Q E, sp vs H Q E → vs.length = ps.length)
    (body : ∀ (cdv : Value) (A : Around) (outer : List Env) (s : Shared) (H : Hp) (vs : List V) (Q : VK) (E : XK), RoomG k (A.deeper (envOfC qual (defScope st) s.heap.objs.size f cdv)) → sp vs H Q E →
      ∃ t, PSs (cxOf CX0 P w K mg base N qual (defScope st) f cdv A outer s H E).nox (defBody st) t ∧ t { nx := fun _ H' => Q .non H', rt := Q } (start N vs) H) : FnG P w K mg base CX0 (k + 1) f fd ps sp :=
  okGA F S ar fun cdv A outer s H vs Q E hr hsp => (body cdv A outer s H vs Q E hr hsp).imp fun _ z => ⟨z.1.nox, z.2⟩
theorem okG {x qual : Str} {st : Stmt} {f : Addr} {fd : FuncData} {N ps : List Str} {k : Nat} {sp : Sp} (F : Fun K x qual st f fd) (S : FnScope N ps (defScope st)) (ar : ∀ vs H Q E, sp vs H Q E → vs.length = ps.length)
    (body : ∀ (cdv : Value) (A : Around) (outer : List Env) (s : Shared) (H : Hp) (vs : List V) (Q : VK) (E : XK), RoomG k (A.deeper (envOfC qual (defScope st) s.heap.objs.size f cdv)) → sp vs H Q E →
      ∃ t, PSs (cxOf CX P w K mg base N qual (defScope st) f cdv A outer s H E) (defBody st) t ∧ t { nx := fun _ H' => Q .non H', rt := Q } (start N vs) H) : FnG P w K mg base CX (k + 1) f fd ps sp :=
  okGA (toA F) S ar body
theorem okG0 {x qual : Str} {st : Stmt} {f : Addr} {fd : FuncData} {N ps : List Str} {k : Nat} {sp : Sp} (F : Fun K x qual st f fd) (S : FnScope N ps (defScope st)) (ar : ∀ vs H Q E, sp vs H Q E → vs.length = ps.length)
    (body : ∀ (cdv : Value) (A : Around) (outer : List Env) (s : Shared) (H : Hp) (vs : List V) (Q : VK) (E : XK), RoomG k (A.deeper (envOfC qual (defScope st) s.heap.objs.size f cdv)) → sp vs H Q E →
      ∃ t, PSs (cxOf CX0 P w K mg base N qual (defScope st) f cdv A outer s H E).nox (defBody st) t ∧ t { nx := fun _ H' => Q .non H', rt := Q } (start N vs) H) : FnG P w K mg base CX0 (k + 1) f fd ps sp :=
  okG0A (toA F) S ar body
end
section
variable {X : Cx} {CX : CXT} {k : Nat} {f : Addr} {fd : FuncData} {ps : List Str} {sp : Sp}
theorem run_G {pins : List (Addr × Obj)} {σ : L2.St} {H : Hp} {s : Shared} {Q : VK} {E : XK} {us : List Value} {vs : List V} (F : FnG X.prog X.w X.K X.mg X.base CX k f fd ps sp) (hr : RoomG k X.A) (hb : Binds X.K fd ps [])
    (out : ∀ e s', CX X.stack H s E e s' → X.xe e s') (I : Inv X pins σ H s) (r : Vals vs us) (h : sp vs H Q E) : wpAny (model X.prog X.w) X.A (call (.ref f) us) (EP X pins σ Q) X.xe s := by
  have n := (r.length).symm.trans (F.arity _ _ _ _ h)
  have b := hb s us I.kIn (by rw [List.append_nil, n])
  rw [List.append_nil] at b
  refine wpAny_call (codeAny_mono (F.go hr I.env0 b r h) ?_)
  rintro (e | fl) s' q
  · exact out e s' q
  · match fl, q with
    | .ret u, q => exact I.after q
/-- a def and its promise, by its name -/
structure Dn (P : Program) (w : World) (K : PySem.W.Frag) (mg : Str → Option Value) (base : Heap) (k : Nat) (x : Str) (ps : List Str) (sp : Sp) : Prop where
  ex : ∃ f fd, FnG P w K mg base CX0 k f fd ps sp ∧ PySem.W.keepIn K (.ref f) = true ∧ mg x = some (.ref f) ∧ Binds K fd ps []
/-- .. that may raise -/
structure Dx (P : Program) (w : World) (K : PySem.W.Frag) (mg : Str → Option Value) (base : Heap) (k : Nat) (x : Str) (ps : List Str) (sp : Sp) : Prop where
  ex : ∃ f fd, FnG P w K mg base (L2.CX P w) k f fd ps sp ∧ PySem.W.keepIn K (.ref f) = true ∧ mg x = some (.ref f) ∧ Binds K fd ps []
theorem Df.ok {P : Program} {w : World} {K : PySem.W.Frag} {mg : Str → Option Value} {base : Heap} {x : Str} {st : Stmt} (D : Df K mg x st ps)
    (h : ∀ f fd, Fun K x x st f fd → FnG P w K mg base CX0 k f fd ps sp) : Dn P w K mg base k x ps sp := by
  obtain ⟨f, fd, F, m, b⟩ := D.ex
  exact ⟨f, fd, h f fd F, F.kp, m, b⟩
theorem Df.okX {P : Program} {w : World} {K : PySem.W.Frag} {mg : Str → Option Value} {base : Heap} {x : Str} {st : Stmt} (D : Df K mg x st ps)
    (h : ∀ f fd, Fun K x x st f fd → FnG P w K mg base (L2.CX P w) k f fd ps sp) : Dx P w K mg base k x ps sp := by
  obtain ⟨f, fd, F, m, b⟩ := D.ex
  exact ⟨f, fd, h f fd F, F.kp, m, b⟩
variable {x : Str} {p pos : Pos} {e : Expr} {es : List Expr} {t : TA}
theorem pe_cD (D : Dn X.prog X.w X.K X.mg X.base k x ps sp) (hr : RoomG k X.A) (hg : Gl X x) (ha : PA X (e :: es) t) (hdb : (x == ("__debug__" : Str)) = false := by decide)
    (he : starEach (e :: es) X.env = (false, eval e X.env) :: starEach es X.env := by rfl) (hpl : (backTo pos (starEach es X.env)).any (·.1) = false := by rfl) : PE X (.Call (.Name x p) (e :: es) [] pos) (tCall sp [] E0 t) := by
  obtain ⟨f, fd, F, hk, hm, hb⟩ := D.ex
  refine ⟨fun pins s σ H Q I h => wpAny_Call_Name_kw (ld_glob I hg hm (PySem.W.callWith_K (h₀ := X.base) I.ok.mod.kin hk (thn (ha.run pos pins s σ H _ I h) fun us s1 ⟨vs, H1, I1, r, q⟩ => ⟨I1.kIn, ?_⟩) he hpl) hdb)⟩
  have q' : sp vs H1 Q E0 := by
    have z : sp (vs ++ []) H1 Q E0 := q
    rw [List.append_nil] at z
    exact z
  exact run_G F hr hb (fun _ _ z => z.elim) I1 r q'
theorem pe_cD0 (D : Dn X.prog X.w X.K X.mg X.base k x ps sp) (hr : RoomG k X.A) (hg : Gl X x) (hdb : (x == ("__debug__" : Str)) = false := by decide) : PE X (.Call (.Name x p) [] [] pos) (tCall sp [] E0 tNil) := by
  obtain ⟨f, fd, F, hk, hm, hb⟩ := D.ex
  refine ⟨fun pins s σ H Q I h => wpAny_Call_Name_kw (ld_glob I hg hm (PySem.W.callWith_K0 I.kIn hk (run_G (us := []) F hr hb (fun _ _ z => z.elim) I .nil h)) hdb)⟩
/-- a def with defaults: dvs fill up -/
structure Dfd (K : PySem.W.Frag) (mg : Str → Option Value) (x : Str) (st : Stmt) (ps : List Str) (dvs : List V) : Prop where
  ex : ∃ (f : Addr) (fd : FuncData) (ds : List Value), FunA K x x st f fd ∧ PySem.W.keepIn K (.ref f) = true ∧ mg x = some (.ref f) ∧ Binds K fd ps ds ∧ Vals dvs ds
theorem Dfd.of {K : PySem.W.Frag} {mg : Str → Option Value} {x : Str} {st : Stmt} {ps : List Str} {dvs : List V} {f T : Addr} {oc : Value} {od an : Option Addr} {osl : Array (Option Value)} {kV doc pm cdv ct : Value} {o : Obj} {its : List Value} {n m : Nat}
    (l : K.lookup f = some ⟨oc, od, .func (PySem.W.fnOf x x (defArgs st) (defBody st) (defScope st) (.ref T) kV doc pm an cdv ct), osl⟩) (c : PySem.W.codeIn K cdv x = true) (k : PySem.W.keepIn K (.ref f) = true) (mx : mg x = some (.ref f))
    (lT : K.lookup T = some o) (oT : o.data = .seq its.toArray m) (rT : Vals dvs its) (hn : n + dvs.length = ps.length)
    (h : ∀ (us : List Value), us.length = n → ∃ kk, bindArgs (PySem.W.fnOf x x (defArgs st) (defBody st) (defScope st) (.ref T) kV doc pm an cdv ct) ⟨us, []⟩ = seqItems? (.ref T) >>= kk ∧ kk (some its.toArray) = pure (ps.zip (us ++ its))) : Dfd K mg x st ps dvs := by
  refine ⟨f, _, its, ⟨⟨_, _, _, _, _, _, _, _, _, _, rfl, l, c⟩⟩, k, mx, fun s us X hlen => ?_, rT⟩
  have l1 := rT.length
  have l2 : us.length = n := by
    rw [List.length_append] at hlen
    omega
  obtain ⟨kk, e1, e2⟩ := h us l2
  refine BindsTo.of_looks fun M => ?_
  rw [e1]
  exact looks_items X lT oT (.of_pure e2)
/-- .. all parameters given -/
theorem Dfd.ofAll {K : PySem.W.Frag} {mg : Str → Option Value} {x : Str} {st : Stmt} {ps : List Str} {f T : Addr} {oc : Value} {od an : Option Addr} {osl : Array (Option Value)} {kV doc pm cdv ct : Value} {o : Obj} {its : List Value} {n m : Nat}
    (l : K.lookup f = some ⟨oc, od, .func (PySem.W.fnOf x x (defArgs st) (defBody st) (defScope st) (.ref T) kV doc pm an cdv ct), osl⟩) (c : PySem.W.codeIn K cdv x = true) (k : PySem.W.keepIn K (.ref f) = true) (mx : mg x = some (.ref f))
    (lT : K.lookup T = some o) (oT : o.data = .seq its.toArray m) (hn : n = ps.length)
    (h : ∀ (us : List Value), us.length = n → ∃ kk, bindArgs (PySem.W.fnOf x x (defArgs st) (defBody st) (defScope st) (.ref T) kV doc pm an cdv ct) ⟨us, []⟩ = seqItems? (.ref T) >>= kk ∧ kk (some its.toArray) = pure (ps.zip us)) : Dfd K mg x st ps [] := by
  refine ⟨f, _, [], ⟨⟨_, _, _, _, _, _, _, _, _, _, rfl, l, c⟩⟩, k, mx, fun s us X hlen => ?_, .nil⟩
  have l2 : us.length = n := by
    rw [List.append_nil] at hlen
    omega
  obtain ⟨kk, e1, e2⟩ := h us l2
  refine BindsTo.of_looks fun M => ?_
  rw [e1, List.append_nil]
  exact looks_items X lT oT (.of_pure e2)
/-- .. and its promise -/
structure DnD (P : Program) (w : World) (K : PySem.W.Frag) (mg : Str → Option Value) (base : Heap) (k : Nat) (x : Str) (ps : List Str) (dvs : List V) (sp : Sp) : Prop where
  ex : ∃ (f : Addr) (fd : FuncData) (ds : List Value), FnG P w K mg base CX0 k f fd ps sp ∧ PySem.W.keepIn K (.ref f) = true ∧ mg x = some (.ref f) ∧ Binds K fd ps ds ∧ Vals dvs ds
theorem Dfd.ok {P : Program} {w : World} {K : PySem.W.Frag} {mg : Str → Option Value} {base : Heap} {x : Str} {st : Stmt} {dvs : List V} (D : Dfd K mg x st ps dvs)
    (h : ∀ f fd, FunA K x x st f fd → FnG P w K mg base CX0 k f fd ps sp) : DnD P w K mg base k x ps dvs sp := by
  obtain ⟨f, fd, ds, F, kp, m, b, d⟩ := D.ex
  exact ⟨f, fd, ds, h f fd F, kp, m, b, d⟩
theorem run_Gd {pins : List (Addr × Obj)} {σ : L2.St} {H : Hp} {s : Shared} {Q : VK} {E : XK} {us ds : List Value} {vs dvs : List V} (F : FnG X.prog X.w X.K X.mg X.base CX k f fd ps sp) (hr : RoomG k X.A) (hb : Binds X.K fd ps ds) (hd : Vals dvs ds)
    (out : ∀ e s', CX X.stack H s E e s' → X.xe e s') (I : Inv X pins σ H s) (r : Vals vs us) (h : sp (vs ++ dvs) H Q E) : wpAny (model X.prog X.w) X.A (call (.ref f) us) (EP X pins σ Q) X.xe s := by
  have r2 : Vals (vs ++ dvs) (us ++ ds) := r.append hd
  have n : (us ++ ds).length = ps.length := by rw [← r2.length]; exact F.arity _ _ _ _ h
  refine wpAny_call (codeAny_mono (F.go hr I.env0 (hb s us I.kIn n) r2 h) ?_)
  rintro (e | fl) s' q
  · exact out e s' q
  · match fl, q with
    | .ret u, q => exact I.after q
theorem pe_cDd {dvs : List V} (D : DnD X.prog X.w X.K X.mg X.base k x ps dvs sp) (hr : RoomG k X.A) (hg : Gl X x) (ha : PA X (e :: es) t) (hdb : (x == ("__debug__" : Str)) = false := by decide)
    (he : starEach (e :: es) X.env = (false, eval e X.env) :: starEach es X.env := by rfl) (hpl : (backTo pos (starEach es X.env)).any (·.1) = false := by rfl) : PE X (.Call (.Name x p) (e :: es) [] pos) (tCall sp dvs E0 t) := by
  obtain ⟨f, fd, ds, F, hk, hm, hb, hd⟩ := D.ex
  refine ⟨fun pins s σ H Q I h => wpAny_Call_Name_kw (ld_glob I hg hm (PySem.W.callWith_K (h₀ := X.base) I.ok.mod.kin hk (thn (ha.run pos pins s σ H _ I h) fun us s1 ⟨vs, H1, I1, r, q⟩ => ⟨I1.kIn, ?_⟩) he hpl) hdb)⟩
  exact run_Gd F hr hb hd (fun _ _ z => z.elim) I1 r q
/-- a call within a try: what is raised is wished at the slots -/
theorem pe_cX {E : L2.St → XK} (D : Dx X.prog X.w X.K X.mg X.base k x ps sp) (hr : RoomG k X.A) (hg : Gl X x) (hx : ∀ σ, PassesAt (L2.CX X.prog X.w) X σ (E σ)) (ha : PA X (e :: es) t) (hdb : (x == ("__debug__" : Str)) = false := by decide)
    (he : starEach (e :: es) X.env = (false, eval e X.env) :: starEach es X.env := by rfl) (hpl : (backTo pos (starEach es X.env)).any (·.1) = false := by rfl) : PE X (.Call (.Name x p) (e :: es) [] pos) (tCallS sp E t) := by
  obtain ⟨f, fd, F, hk, hm, hb⟩ := D.ex
  exact ⟨fun pins s σ H Q I h => wpAny_Call_Name_kw (ld_glob I hg hm (PySem.W.callWith_K (h₀ := X.base) I.ok.mod.kin hk (thn (ha.run pos pins s σ H _ I h) fun us s1 ⟨vs, H1, I1, r, q⟩ =>
    ⟨I1.kIn, run_G F hr hb (fun e s' z => hx σ pins H1 s1 e s' I1 z) I1 r q⟩) he hpl) hdb)⟩
/-- repr of what is data -/
def rRepr (K : PySem.W.Frag) : List V → Hp → VK → Prop := fun xs H Q => ∃ (x : V) (d : PyData), xs = [x] ∧ Dp K H x d ∧ d.showable = true ∧ d.depth ≤ 60 ∧ d.shown.length ≤ sizeLine ∧ Q (.str d.shown) H
mutual
theorem dp_noDict {K : PySem.W.Frag} {H : Hp} : ∀ (d : PyData) (x : V), Dp K H x d → d.hasDict = false
  | .none, _, _ => rfl
  | .bool _, _, _ => rfl
  | .int _, _, _ => rfl
  | .str _, _, _ => rfl
  | .list ds, _, h => by
    cases h with
    | lst _ ha => simpa [PyData.hasDict] using dp_noDicts ds _ ha
  | .tuple ds, _, h => by
    cases h with
    | tup _ ha => simpa [PyData.hasDict] using dp_noDicts ds _ ha
  | .dict _, _, h => by cases h
theorem dp_noDicts {K : PySem.W.Frag} {H : Hp} : ∀ (ds : List PyData) (xs : List V), DpAll K H xs ds → PyData.hasDictAll ds = false
  | [], _, _ => by simp [PyData.hasDictAll]
  | d :: ds, _, h => by
    cases h with
    | cons a b => simp [PyData.hasDictAll, dp_noDict d _ a, dp_noDicts ds _ b]
end
theorem reprK {K : PySem.W.Frag} (hr : RoomG k X.A) (eK : X.K = K := by rfl) : CallR X (.builtin "repr") (rRepr K) := by
  cases eK
  intro pins s σ H xs us Q I r h
  obtain ⟨x, d, rfl, hd, hs, hdep, hz, q⟩ := h
  obtain ⟨u, rfl, rx⟩ := vals1 r
  obtain ⟨as, rd⟩ := Dp.reads I d x u hd rx
  have hu := hr.units
  have nd := dp_noDict d x hd
  cases hd with
  | non => cases rx; exact PySem.P.repr_of_none ⟨.str _, H, I.tok _, ⟨_, rfl⟩, q⟩
  | bl b => cases rx; exact PySem.P.repr_of_bool ⟨.str _, H, I.tok _, ⟨_, rfl⟩, q⟩
  | int i => obtain ⟨t, rfl⟩ := rx; exact PySem.P.repr_of_int (of_decide_eq_true (by simpa [PyData.showable] using hs)) ⟨.str _, H, I.tok _, ⟨_, rfl⟩, q⟩
  | str z => obtain ⟨t, rfl⟩ := rx; exact PySem.P.repr_of_str ⟨.str _, H, I.tok _, ⟨_, rfl⟩, q⟩ hz
  | lst hq ha =>
    cases rx
    refine repr_of_reads' rd hs (PyData.noDict_hsm nd) hr.idle (by omega) (fun _ _ z => z) (fun h' u tk hk => ⟨.str _, H, I.kept hk, ⟨_, rfl⟩, q⟩) hz
  | tup hq ha =>
    cases rx
    refine repr_of_reads' rd hs (PyData.noDict_hsm nd) hr.idle (by omega) (fun _ _ z => z) (fun h' u tk hk => ⟨.str _, H, I.kept hk, ⟨_, rfl⟩, q⟩) hz
end
end Toy
namespace Toy
open PySem PySem.Spec PyProof.Rows L2
/-- what was tracked stays, but for one object -/
def But (p : Addr) (H H' : Hp) : Prop := ∀ b o, b ≠ p → H b = some o → H' b = some o
theorem But.refl {p : Addr} {H : Hp} : But p H H := fun _ _ _ h => h
theorem But.trans {p : Addr} {H H1 H2 : Hp} (a : But p H H1) (b : But p H1 H2) : But p H H2 := fun c o n h => b c o n (a c o n h)
theorem But.free {p : Addr} {H H' : Hp} (e : But p H H') {l : Addr} (n : l ≠ p) (h : H' l = Option.none) : H l = Option.none := by
  cases q : H l with
  | none => rfl
  | some o =>
    rw [e l o n q] at h
    cases h
theorem same_but {p : Addr} {H H' : Hp} (a : Same H H') : But p H H' := fun c o _ h => a c o h
theorem But.upd {p : Addr} {H : Hp} {o : HO} : But p H (upd H p o) := fun b u n h => by rw [upd_ne n]; exact h
theorem same_new {H : Hp} {p : Addr} (h : H p = none) (o : HO) : Same H (upd H p o) := fun b u q => by rw [upd_ne (ne_of_none q h)]; exact q
theorem but_tup {p : Addr} {K : PySem.W.Frag} {H H' : Hp} {a : Addr} {xs ys : List V} (e : But p H H') (hp : H p = some (.lst ys)) (h : SqT K H a xs) : SqT K H' a xs := by
  rcases h with (h | ⟨o, h⟩) | h
  · exact .inl (.inl (e _ _ (ne_of h hp (by intro z; cases z)) h))
  · exact .inl (.inr ⟨o, e _ _ (ne_of h hp (by intro z; cases z)) h⟩)
  · exact .inr h
theorem same_tup {K : PySem.W.Frag} {H H' : Hp} {a : Addr} {xs : List V} (e : Same H H') (h : SqT K H a xs) : SqT K H' a xs := by
  rcases h with (h | ⟨o, h⟩) | h
  · exact .inl (.inl (e _ _ h))
  · exact .inl (.inr ⟨o, e _ _ h⟩)
  · exact .inr h
/-- the script stays -/
theorem but_seq {p : Addr} {K : PySem.W.Frag} {H H' : Hp} {a : Addr} {xs : List V} (e : But p H H') (n : a ≠ p) (h : SqL K H a xs) : SqL K H' a xs := by
  rcases h with (h | ⟨o, h⟩) | h
  · exact .inl (.inl (e _ _ n h))
  · exact .inl (.inr ⟨o, e _ _ n h⟩)
  · exact .inr h
theorem small {n : Nat} (h : n ≤ 1000) : n ≤ sizeLine := Nat.le_of_lt (small1000 h)
theorem log_lt {i : Int} {n : Nat} (h0 : 0 < n) (h : i.natAbs < 2 ^ n) : i.natAbs.log2 < n := PySem.Flt.log2_lt_of h0 h
theorem divp_small {i j : Int} (hj : 0 < j) (h : j < 2 ^ 8000) : CDivP i j := by
  refine ⟨hj, PyProof.noPylong_of_log2 ?_⟩
  exact Nat.lt_trans (log_lt (n := 8000) (by decide) (by omega)) (by decide)
end Toy
namespace Toy
open PySem PySem.Spec PyProof.Rows L2
theorem ifT {c : Bool} {A B : Prop} (hc : c = true) (h : A) : if c = true then A else B := by rw [if_pos hc]; exact h
theorem ifF {c : Bool} {A B : Prop} (hc : c = false) (h : B) : if c = true then A else B := by rw [hc]; exact iteF h
theorem pj {j : Int} (h : decide ((0 : Int) < j) = true := by decide) : 0 < j := of_decide_eq_true h
theorem sz {xs : List V} (h : Nat.ble xs.length 1000 = true := by rfl) : xs.length ≤ sizeLine := small (Nat.le_of_ble_eq_true h)
theorem but_same {p : Addr} {H H1 H2 : Hp} (n : H p = none) (a : Same H H1) (b : But p H1 H2) : Same H H2 := fun c o h => b c o (ne_of_none h n) (a c o h)
/-- two ways of a value meet -/
theorem ifE {ta tb : TE} {σ : L2.St} {H : Hp} {Q : VK} {b : Bool} (R : V → Hp → Prop) (h : ∀ v H', R v H' → Q v H') (h1 : b = true → ∀ Q' : VK, (∀ v H', R v H' → Q' v H') → ta σ H Q') (h2 : b = false → ∀ Q' : VK, (∀ v H', R v H' → Q' v H') → tb σ H Q') :
    if b = true then ta σ H Q else tb σ H Q := by
  cases b with
  | true => exact iteT (h1 rfl Q h)
  | false => exact iteF (h2 rfl Q h)
theorem mulx {i j : Int} (a b : Nat) (ha : i.natAbs < 2 ^ a) (hb : j.natAbs < 2 ^ b) (h : a + b ≤ 134217728 := by decide) : CMulX i j := mulx_ok ha hb h
end Toy
namespace Toy
open PySem PySem.Spec PyProof.Rows L2
theorem qi {Q : VK} {H : Hp} {a b : Int} (q : Q (.int a) H) (e : a = b) : Q (.int b) H := e ▸ q
end Toy
namespace Toy
open PySem PySem.Spec PyProof.Rows L2
/-- the written part by its letter -/
theorem kk {α : Sort _} {P : α → Prop} {F : PySem.W.Frag → α} {K0 K : PySem.W.Frag} (h : P (F K0)) (e : K0 = K := by rfl) : P (F K) := e ▸ h
def rLen (K : PySem.W.Frag) : List V → Hp → VK → Prop := fun xs H Q => ∃ p ys, xs = [.ref p] ∧ (SqL K H p ys ∨ SqT K H p ys) ∧ Q (.int ys.length) H
theorem lenK {X : Cx} {K : PySem.W.Frag} (e : X.K = K := by rfl) : CallR X (.builtin "len") (rLen K) := by cases e; exact call_len_seq
def rLstOf (K : PySem.W.Frag) : List V → Hp → VK → Prop := fun xs H Q => ∃ p ys, xs = [.ref p] ∧ (SqL K H p ys ∨ SqT K H p ys) ∧ ∀ l, H l = none → Q (.ref l) (upd H l (.lst ys))
theorem lstOfK {X : Cx} {K : PySem.W.Frag} (e : X.K = K := by rfl) : CallR X (.type "list") (rLstOf K) := by cases e; exact call_list_of
def rTupOf (K : PySem.W.Frag) : List V → Hp → VK → Prop := fun xs H Q => ∃ p ys, xs = [.ref p] ∧ ((SqL K H p ys ∧ ∀ l, H l = none → Q (.ref l) (upd H l (.tup ys))) ∨ (SqT K H p ys ∧ Q (.ref p) H))
theorem tupOfK {X : Cx} {K : PySem.W.Frag} (e : X.K = K := by rfl) : CallR X (.type "tuple") (rTupOf K) := by cases e; exact call_tuple_of
theorem dec_ne {α : Type} [DecidableEq α] {a b : α} (h : a = b) : (!decide (a = b)) = false := by rw [decide_eq_true h] <;> rfl
end Toy
namespace Toy
open PySem PySem.Spec PyProof.Rows L2
/-- a tuple of the written part; a tuple that never changes -/
def KTup (K : PySem.W.Frag) (a : Addr) (xs : List V) : Prop := ∃ (o : Obj) (its : Array Value) (n : Nat), K.lookup a = some o ∧ o.cls = .type "tuple" ∧ o.data = .seq its n ∧ its.size ≤ sizeLine ∧ Vals xs its.toList
def TupAt (K : PySem.W.Frag) (H : Hp) (a : Addr) (xs : List V) : Prop := H a = some (.tup xs) ∨ KTup K a xs
theorem TupAt.sq {K : PySem.W.Frag} {H : Hp} {a : Addr} {xs : List V} (h : TupAt K H a xs) : SqT K H a xs := by
  rcases h with h | h
  · exact SqT.of h
  · exact .inr h
theorem TupAt.ty {K : PySem.W.Frag} {H : Hp} {a : Addr} {xs : List V} (h : TupAt K H a xs) : TyX K H (.ref a) (.type "tuple") := by
  rcases h with h | ⟨o, its, n, h1, h2, _⟩
  · exact .base (.tup h)
  · exact .kTuple h1 h2
theorem TupAt.same {K : PySem.W.Frag} {H H' : Hp} {a : Addr} {xs : List V} (e : Same H H') (h : TupAt K H a xs) : TupAt K H' a xs := h.imp (e _ _) id
theorem TupAt.but {K : PySem.W.Frag} {H H' : Hp} {a p : Addr} {xs ys : List V} (e : But p H H') (hp : H p = some (.lst ys)) (h : TupAt K H a xs) : TupAt K H' a xs := h.imp (fun h => e _ _ (ne_of h hp (by intro z; cases z)) h) id
end Toy
namespace Toy
open PySem PySem.Spec PyProof.Rows L2
theorem ints_dp {K : PySem.W.Frag} {H : Hp} : ∀ ns : List Int, DpAll K H (ns.map V.int) (ns.map PyData.int)
  | [] => .nil
  | n :: r => .cons (.int n) (ints_dp r)
theorem ints_sh (ns : List Int) : SeqAt.shaped (.list (ns.map PyData.int)) = true := PySem.W.ke_shaped_ints ns
theorem ints_refl (ns : List Int) : PyData.eqv (.list (ns.map PyData.int)) (.list (ns.map PyData.int)) = true := SeqAt.eqv_refl _ (SeqAt.canLay_of_shaped (ints_sh ns))
theorem lst_dp {K : PySem.W.Frag} {H : Hp} {a : Addr} {ns : List Int} (h : SqL K H a (ns.map V.int)) : Dp K H (.ref a) (.list (ns.map PyData.int)) := .lst h (ints_dp ns)
theorem tupI_dp {K : PySem.W.Frag} {H : Hp} {a : Addr} {ns : List Int} (h : SqT K H a (ns.map V.int)) : Dp K H (.ref a) (.tuple (ns.map PyData.int)) := .tup h (ints_dp ns)
theorem tupI_sh (ns : List Int) : SeqAt.shaped (.tuple (ns.map PyData.int)) = true := ints_sh ns
theorem tupI_refl (ns : List Int) : PyData.eqv (.tuple (ns.map PyData.int)) (.tuple (ns.map PyData.int)) = true := SeqAt.eqv_refl _ (SeqAt.canLay_of_shaped (tupI_sh ns))
theorem cut_map (us : List Int) (lo hi : Option Int) : ∃ ws : List Int, cutV (us.map V.int) lo hi = ws.map V.int ∧ ws.length ≤ us.length ∧ ∀ x ∈ ws, x ∈ us := by
  refine ⟨(us.drop (HT.sIx (us.map V.int).length 0 lo)).take (HT.sIx (us.map V.int).length (us.map V.int).length hi - HT.sIx (us.map V.int).length 0 lo), ?_, ?_, fun x hx => List.mem_of_mem_drop (List.mem_of_mem_take hx)⟩
  · unfold cutV; rw [List.map_take, List.map_drop]
  · rw [List.length_take, List.length_drop]; omega
theorem at_map {us : List Int} {i : Nat} {y : V} (h : (us.map V.int)[i]? = some y) : ∃ x : Int, y = .int x ∧ us[i]? = some x := by
  rw [List.getElem?_map] at h
  cases e : us[i]? with
  | none => rw [e] at h; cases h
  | some x => rw [e] at h; exact ⟨x, (Option.some.inj h).symm, rfl⟩
end Toy
namespace Toy
open PySem PySem.Spec PyProof.Rows L2
/-- the heap in which the script alone stands, unless the text's own part holds it -/
def scriptH (K : PySem.W.Frag) (a : Addr) (o : Obj) (ns : List Int) : Hp := fun c => if (K.lookup a).isNone = true ∧ c = a then some (.frz o (.lst (ns.map V.int))) else none
theorem scriptH_none {K : PySem.W.Frag} {a b : Addr} {o : Obj} {ns : List Int} : scriptH K a o ns b = none ∨ (b = a ∧ K.lookup a = none ∧ scriptH K a o ns b = some (.frz o (.lst (ns.map V.int)))) := by
  unfold scriptH
  by_cases c : (K.lookup a).isNone = true ∧ b = a
  · exact .inr ⟨c.2, Option.isNone_iff_eq_none.mp c.1, if_pos c⟩
  · exact .inl (if_neg c)
theorem law_G {P : Program} {w : World} {K : PySem.W.Frag} {mg mb : Str → Option Value} {k : Nat} {fa a : Addr} {fd : FuncData} {x : Str} {sp : Sp} {s : Shared} {vs : List Value} {ns : List Int}
    (KX : K.In s.heap) (hns : s.heap.Ns mainGlobals mg) (hb : s.heap.Ns builtinsNs mb) (hbb : ∀ x : Str, x ≠ "__name__" → mb x = bootBuiltins x) (hlim : s.heap.NoLimit) (hg : s.gens = #[])
    (ha : s.heap.get? a = some { cls := .type "list", data := .seq vs.toArray }) (hi : IntsAre vs ns) (hl : ns.length ≤ sizeLine) (hr : Room k PySem.callerA)
    (F : ∀ base : Heap, K.In base → base.Ns mainGlobals mg → FnG P w K mg base CX0 k fa fd [x] sp) (hbind : ∀ (s : Shared) (u : Value), BindsTo s fd ⟨[u], []⟩ [(x, u)])
    (hsp : ∀ H : Hp, SqL K H a (ns.map V.int) → sp [.ref a] H (fun v _ => v = .bl true) fun _ _ _ => False) :
    codeAny (model P w) PySem.callerA (.call (.ref fa) ⟨[.ref a], []⟩) (fun r s' => r = .ok (.ret (.bool true)) ∧ OldK s.heap s'.heap ∧ s'.os = s.os ∧ AllBare s'.gens) s := by
  let H : Hp := scriptH K a { cls := .type "list", data := .seq vs.toArray } ns
  have hH : ∀ b, H b = none ∨ (b = a ∧ K.lookup a = none ∧ H b = some (.frz { cls := .type "list", data := .seq vs.toArray } (.lst (ns.map V.int)))) := fun b => scriptH_none
  have rv := vals_ints hi
  have hok : HOk P w H s.heap := by
    intro b u e
    rcases hH b with z | ⟨rfl, _, z⟩
    · rw [z] at e; cases e
    · rw [z] at e
      cases e
      exact ⟨ha, by rw [List.length_map]; exact hl, vs, _, rv, ha⟩
  have hS : SqL K H a (ns.map V.int) := by
    cases q : K.lookup a with
    | none => exact .inl (.inr ⟨_, show scriptH K a _ ns a = _ from if_pos ⟨by rw [q] <;> rfl, rfl⟩⟩)
    | some o =>
      have e := KX a o q
      rw [ha] at e
      cases e
      exact .inr ⟨_, vs.toArray, _, q, rfl, rfl, rfl, by rw [List.size_toArray, hi.length]; exact hl, by simpa using rv⟩
  -- what is no list is not the script
  have notA : ∀ {b : Addr} {o : Obj} {es : Array DictEntry} {ep : Nat}, s.heap.get? b = some o → o.data = .dict es ep → H b = none := by
    intro b o es ep e d
    rcases hH b with z | ⟨rfl, _, _⟩
    · exact z
    · rw [ha] at e
      cases e
      cases (show Data.seq vs.toArray _ = Data.dict es ep from d)
  have ns' : ∀ {b : Addr} {m : Str → Option Value}, s.heap.Ns b m → (hidT s.heap H).Ns b m := by
    rintro b m ⟨o, es, ep, e, d, r⟩
    exact ⟨o, es, ep, hidT_get e (notA e d), d, r⟩
  have kin' : K.In (hidT s.heap H) := by
    intro b o e
    refine hidT_get (KX b o e) ?_
    rcases hH b with z | ⟨rfl, q, _⟩
    · exact z
    · rw [q] at e; cases e
  have md : Mod K mg (hidT s.heap H) := ⟨kin', ns' hns, ⟨mb, ns' hb, hbb⟩, hlim.imp fun _ z => ⟨ns' z.1, z.2⟩⟩
  have e0 : Env0 P w K mg (hidT s.heap H) PySem.callerA [] s H := ⟨rfl, md, fun _ _ z => of_hidT z, Nat.le_of_eq (hidT_size _ _), trivial, (by intro b z; cases z), hok, .of_eq hg⟩
  refine codeAny_mono ((F _ kin' (ns' hns)).go (us := [.ref a]) (vs := [.ref a]) ⟨hr, rfl⟩ e0 (hbind s (.ref a)) (.cons rfl .nil) (hsp H hS)) ?_
  rintro (e | fl) s' q
  · exact q.elim
  match fl, q with
  | .ret u, ⟨v, H', os, bare, un, ok', r', q⟩ =>
    have q' : v = .bl true := q
    subst q'
    obtain rfl : u = Value.bool true := r'
    refine ⟨rfl, OldK.of_keep fun b o e => ?_, os, bare⟩
    rcases hH b with z | ⟨_, _, z⟩
    · exact un.keep b o e z (by intro y; cases y) (by intro y; cases y)
    · have z1 := (hok b _ z).1
      have z2 := (ok' b _ (un.frzs b _ _ z)).1
      rw [e] at z1
      cases z1
      exact z2
theorem walk_G {l : PySem.W.OpenLaw} {n k : Nat} {q : Program} {loose : List Str} {XP : (Str → Option Value) → Heap → Prop} {YP : World → Heap → Prop} {d : DefRec} {K : Params → PySem.W.Frag} {sp : PySem.W.Frag → Sp} {x : Str}
    (hn : l.most = some n) (hn2 : n ≤ sizeLine) (hdf : d.params.defaults = []) (hr : Room k PySem.callerA) (hY : ∀ (w : World) (h : Heap), YP w h → (K w.params).In h)
    (F : ∀ (w : World) (mg : Str → Option Value) (fa : Addr) (h : Heap), (K w.params).In h → h.Ns mainGlobals mg → mg d.name = some (.ref fa) →
      ∃ fd : FuncData, (∀ (s : Shared) (u : Value), BindsTo s fd ⟨[u], []⟩ [(x, u)]) ∧ ∀ base : Heap, (K w.params).In base → base.Ns mainGlobals mg → FnG l.prog w (K w.params) mg base CX0 k fa fd [x] (sp (K w.params)))
    (hsp : ∀ (K : PySem.W.Frag) (H : Hp) (a : Addr) (ns : List Int), ns.length ≤ n → SqL K H a (ns.map V.int) → sp K [.ref a] H (fun v _ => v = .bl true) fun _ _ _ => False) :
    PySem.W.WalkO q loose XP YP l.row.toRowW d [] (fun f vs => PySem.call f vs) :=
  Att.attach_call hn hdf fun w s0 s1 mg mb fa o pm cd doc a vs ns G Y ho hd hcd hmg hobj hints hlen hg => by
    have KX := hY w _ Y
    obtain ⟨fd, hbd, hF⟩ := F w mg fa _ KX G.T.g hmg
    exact law_G KX G.T.g G.T.b G.T.builtins G.T.nolimit hg hobj hints (Nat.le_trans hlen hn2) hr hF hbd fun H hS => hsp _ H a ns hlen hS
end Toy
namespace Toy
open PySem PySem.Spec PyProof.Rows L2
/-! ### how long a shown datum is -/
mutual
def cst : PyData → Nat
  | .none => 5
  | .bool _ => 5
  | .int _ => 1921
  | .str x => (reprText x).length
  | .list xs => csts xs + 4
  | .tuple xs => csts xs + 4
  | .dict _ => 0
def csts : List PyData → Nat
  | [] => 0
  | x :: xs => cst x + 4 + csts xs
end
theorem tupT_len (ts : List Str) : (tupleText ts).length ≤ piled ts + 4 := by
  unfold tupleText
  rw [strLen_append, strLen_append]
  have e1 : ((("(" : String) : Str)).length = 1 := rfl
  have e3 : (((if ts.length == 1 then ",)" else ")" : String) : Str)).length ≤ 2 := by split <;> decide +kernel
  by_cases h : ts = []
  · subst h; decide +kernel
  · have := join_length_add ts h; omega
theorem txtFrom_len : ∀ (ts : List Str) (k : Nat) (acc : Str), (textFrom k acc ts).length ≤ acc.length + piled ts
  | [], k, acc => Nat.le_add_right _ _
  | t :: r, k, acc => by
    have h := txtFrom_len r (k + 1) (acc ++ (if k > 0 then ", " else "" : String) ++ t)
    have e : (acc ++ (if k > 0 then ", " else "" : String) ++ t).length = acc.length + (if k > 0 then 2 else 0) + t.length := by
      rw [strLen_append, strLen_append]
      split <;> rfl
    rw [e] at h
    rw [piled_cons]
    have h2 : (textFrom k acc (t :: r)).length = (textFrom (k + 1) (acc ++ (if k > 0 then ", " else "" : String) ++ t) r).length := rfl
    rw [h2]
    have e2 : (if k > 0 then 2 else 0) ≤ 2 := by split <;> omega
    omega
theorem lstT_len (ts : List Str) : (listText ts).length ≤ piled ts + 4 := by
  unfold listText
  rw [strLen_append]
  have h := txtFrom_len ts 0 "["
  have e1 : ((("[" : String) : Str)).length = 1 := rfl
  have e2 : ((("]" : String) : Str)).length = 1 := rfl
  omega
mutual
theorem shown_le : ∀ d : PyData, d.showable = true → d.hasDict = false → d.shown.length ≤ cst d
  | .none, _, _ => by show (("None" : String) : Str).length ≤ 5; decide +kernel
  | .bool b, _, _ => by cases b <;> (show _ ≤ 5; decide +kernel)
  | .int i, h, _ => PyProof.Rows.int_text_len_1921 (of_decide_eq_true (by simpa [PyData.showable] using h))
  | .str x, _, _ => Nat.le_refl _
  | .list ds, h, g => by
    have h1 := showns_le ds (by simpa [PyData.showable] using h) (by simpa [PyData.hasDict] using g)
    have h2 := lstT_len (PyData.shownAll ds)
    show (listText (PyData.shownAll ds)).length ≤ csts ds + 4
    omega
  | .tuple ds, h, g => by
    have h1 := showns_le ds (by simpa [PyData.showable] using h) (by simpa [PyData.hasDict] using g)
    have h2 := tupT_len (PyData.shownAll ds)
    show (tupleText (PyData.shownAll ds)).length ≤ csts ds + 4
    omega
  | .dict _, _, g => by simp [PyData.hasDict] at g
theorem showns_le : ∀ ds : List PyData, PyData.showableAll ds = true → PyData.hasDictAll ds = false → piled (PyData.shownAll ds) ≤ csts ds
  | [], _, _ => Nat.le_refl _
  | d :: ds, h, g => by
    have h1 := shown_le d (by simp [PyData.showableAll] at h; exact h.1) (by simp [PyData.hasDictAll] at g; exact g.1)
    have h2 := showns_le ds (by simp [PyData.showableAll] at h; exact h.2) (by simp [PyData.hasDictAll] at g; exact g.2)
    show piled (d.shown :: PyData.shownAll ds) ≤ _
    rw [piled_cons]
    show _ ≤ cst d + 4 + csts ds
    omega
end
theorem shown_sz {d : PyData} (h : d.showable = true) (g : d.hasDict = false) (c : cst d ≤ 10000000) : d.shown.length ≤ sizeLine :=
  Nat.le_trans (shown_le d h g) (Nat.le_trans c (by decide))
end Toy
namespace Toy
open PySem PySem.Spec PyProof.Rows L2
/-- a list of ints grown by a part of another one -/
theorem ext_cut {L z : Addr} {ws es : List Int} {lo hi : Option Int} {H : Hp} {R : VK} (hL : H L = some (.lst (ws.map V.int))) (hz : H z = some (.lst (cutV (es.map V.int) lo hi))) (hs : ws.length + es.length ≤ 1000)
    (q : ∀ us : List Int, us.length ≤ es.length → (∀ x ∈ us, x ∈ es) → R .non (upd H L (.lst ((ws ++ us).map V.int)))) : rExtend (.ref L) [.ref z] H R := by
  obtain ⟨us, e, h1, h2⟩ := cut_map es lo hi
  rw [e] at hz
  refine ⟨L, z, _, _, rfl, rfl, hL, hz, small (by rw [List.length_map, List.length_map]; omega), ?_⟩
  have := q us h1 h2
  rw [List.map_append] at this
  exact this
theorem rep_len {n : Nat} : ((List.replicate n true).map V.bl).length = n := by rw [List.length_map, List.length_replicate]
theorem rep_snoc {n : Nat} : (List.replicate n true).map V.bl ++ [V.bl true] = (List.replicate (n + 1) true).map V.bl := by rw [List.replicate_succ', List.map_append] <;> rfl
theorem rep_all (n : Nat) : (List.replicate n true).all id = true := by rw [List.all_eq_true]; intro x hx; rw [List.mem_replicate] at hx; exact hx.2
theorem ixn {n j : Nat} (hj : j < n) : ixN n (j : Int) = some j := by
  unfold ixN
  rw [if_pos (by omega), if_pos (by omega)]
  exact congrArg some (Int.toNat_natCast j)
theorem dec_self (a : V) : decide (a = a) = true := decide_eq_true rfl
end Toy
namespace Toy
open PySem PySem.Spec PyProof.Rows L2
/-- a comprehension within a comprehension -/
theorem relabel_kept {env : Env} : ∀ {names : List (Str × NameKind)} {x : Str}, names.lookup x = some .cell ∨ names.lookup x = some .free →
    (names.map fun (n, k) => if (k == NameKind.free && env.scope.kind == .function && env.kindOf n == some .cell) then (n, NameKind.cell) else (n, k)).lookup x = some .cell ∨
    (names.map fun (n, k) => if (k == NameKind.free && env.scope.kind == .function && env.kindOf n == some .cell) then (n, NameKind.cell) else (n, k)).lookup x = some .free
  | [], _, h => by simp at h
  | (n, k) :: r, x, h => by
    have ih := @relabel_kept env r x
    show List.lookup x ((if (k == NameKind.free && env.scope.kind == .function && env.kindOf n == some .cell) = true then (n, NameKind.cell) else (n, k)) :: _) = _ ∨ List.lookup x ((if (k == NameKind.free && env.scope.kind == .function && env.kindOf n == some .cell) = true then (n, NameKind.cell) else (n, k)) :: _) = _
    cases hx : x == n with
    | true =>
      simp only [List.lookup_cons, hx] at h
      by_cases hc : (k == NameKind.free && env.scope.kind == .function && env.kindOf n == some .cell) = true
      · rw [if_pos hc]; exact .inl (by simp [List.lookup_cons, hx])
      · rw [if_neg hc]; simp only [List.lookup_cons, hx]; exact h
    | false =>
      simp only [List.lookup_cons, hx] at h
      by_cases hc : (k == NameKind.free && env.scope.kind == .function && env.kindOf n == some .cell) = true
      · rw [if_pos hc]; simp only [List.lookup_cons, hx]; exact ih h
      · rw [if_neg hc]; simp only [List.lookup_cons, hx]; exact ih h
theorem blkOk_nest {X : Cx} {s : Shared} {H : Hp} {scope1 scope : Scope} {cl : List (Str × Addr)} {C : Addr} {env : Env} {fp : List Addr} {own : List (Str × Nat)} {N : List Str} (hN : X.N = N) (h : blkC N scope1 scope own = true) :
    BlkOk (X.blk s H scope1 (compEnvC scope1 cl C env) fp).N (X.blk s H scope1 (compEnvC scope1 cl C env) fp).env.scope scope own := by
  subst hN
  obtain ⟨h1, h2, h3, h4, h5⟩ := blkOk_by h
  exact ⟨h1, h2, h3, fun y hy e => relabel_kept (h4 y hy e), h5⟩
end Toy
namespace Toy
open PySem PySem.Spec PyProof.Rows L2
/-! ### own classes -/
/-- where a name's class stands -/
def cAt (mg : Str → Option Value) (x : Str) : Addr := match mg x with | some (.ref C) => C | _ => 0
theorem cAt_eq {mg : Str → Option Value} {x : Str} {C : Addr} (h : mg x = some (.ref C)) : cAt mg x = C := by unfold cAt; rw [h]
structure ClsF (K : PySem.W.Frag) (mg : Str → Option Value) (x : Str) (fs : List Str) : Prop where
  mg_ : mg x = some (.ref (cAt mg x))
  cl : Cls K (cAt mg x)
  no : ∀ f ∈ fs, NoAttr K (cAt mg x) f
theorem ClsF.of {K : PySem.W.Frag} {mg : Str → Option Value} {x : Str} {C : Addr} {fs : List Str} (m : mg x = some (.ref C)) (c : Cls K C) (n : ∀ f ∈ fs, NoAttr K C f) : ClsF K mg x fs := by
  have e := cAt_eq m
  exact ⟨by rw [e]; exact m, by rw [e]; exact c, by rw [e]; exact n⟩
/-- a method, by its class -/
structure DfM (K : PySem.W.Frag) (C : Addr) (m q : Str) (st : Stmt) (ps : List Str) : Prop where
  ex : ∃ f fd, Fun K m q st f fd ∧ Meth K C m f ∧ Binds K fd ps []
theorem DfM.of {K : PySem.W.Frag} {mg : Str → Option Value} {x m q : Str} {st : Stmt} {ps : List Str} {f C : Addr} {oc : Value} {od an : Option Addr} {osl : Array (Option Value)} {kV doc pm cdv ct : Value} (hC : mg x = some (.ref C))
    (a : PySem.W.findIn K (.ref C) m = some (some (.ref f))) (i : PySem.W.isFn K (.ref f) = true)
    (l : K.lookup f = some ⟨oc, od, .func (PySem.W.fnOf m q (defArgs st) (defBody st) (defScope st) .none kV doc pm an cdv ct), osl⟩) (c : PySem.W.codeIn K cdv q = true) (k : PySem.W.keepIn K (.ref f) = true)
    (h : ∀ (kV doc pm : Value) (an : Option Addr) (cdv ct : Value) (us : List Value), us.length = ps.length → bindArgs (PySem.W.fnOf m q (defArgs st) (defBody st) (defScope st) .none kV doc pm an cdv ct) ⟨us, []⟩ = pure (ps.zip us)) : DfM K (cAt mg x) m q st ps := by
  rw [cAt_eq hC]
  exact ⟨_, _, fun_mk l c k, ⟨a, i, k⟩, (fun_mk l c k).binds h⟩
structure DnM (P : Program) (w : World) (K : PySem.W.Frag) (mg : Str → Option Value) (base : Heap) (C : Addr) (k : Nat) (m : Str) (ps : List Str) (sp : Sp) : Prop where
  ex : ∃ f fd, FnG P w K mg base CX0 k f fd ps sp ∧ Meth K C m f ∧ Binds K fd ps []
theorem DfM.ok {P : Program} {w : World} {K : PySem.W.Frag} {mg : Str → Option Value} {base : Heap} {C : Addr} {m q : Str} {st : Stmt} {ps : List Str} {k : Nat} {sp : Sp} (D : DfM K C m q st ps)
    (h : ∀ f fd, Fun K m q st f fd → FnG P w K mg base CX0 k f fd ps sp) : DnM P w K mg base C k m ps sp := by
  obtain ⟨f, fd, F, mt, b⟩ := D.ex
  exact ⟨f, fd, h f fd F, mt, b⟩
/-- the maker of a class -/
structure DfI (K : PySem.W.Frag) (C : Addr) (q : Str) (st : Stmt) (ps : List Str) : Prop where
  ex : ∃ f fd, Fun K "__init__" q st f fd ∧ Mk K C f ∧ Binds K fd ps []
theorem DfI.of {K : PySem.W.Frag} {mg : Str → Option Value} {x q : Str} {st : Stmt} {ps : List Str} {f C : Addr} {oc : Value} {od an : Option Addr} {osl : Array (Option Value)} {kV doc pm cdv ct : Value} (hC : mg x = some (.ref C))
    (a : PySem.W.findIn K (.ref C) "__init__" = some (some (.ref f))) (i : PySem.W.isFn K (.ref f) = true)
    (l : K.lookup f = some ⟨oc, od, .func (PySem.W.fnOf "__init__" q (defArgs st) (defBody st) (defScope st) .none kV doc pm an cdv ct), osl⟩) (c : PySem.W.codeIn K cdv q = true) (k : PySem.W.keepIn K (.ref f) = true)
    (mk : PySem.W.makesIn K C = true) (kc : PySem.W.keepIn K (.ref C) = true)
    (h : ∀ (kV doc pm : Value) (an : Option Addr) (cdv ct : Value) (us : List Value), us.length = ps.length → bindArgs (PySem.W.fnOf "__init__" q (defArgs st) (defBody st) (defScope st) .none kV doc pm an cdv ct) ⟨us, []⟩ = pure (ps.zip us)) : DfI K (cAt mg x) q st ps := by
  rw [cAt_eq hC]
  exact ⟨_, _, fun_mk l c k, ⟨mk, a, i, kc⟩, (fun_mk l c k).binds h⟩
structure DnI (P : Program) (w : World) (K : PySem.W.Frag) (mg : Str → Option Value) (base : Heap) (C : Addr) (k : Nat) (ps : List Str) (sp : Sp) : Prop where
  ex : ∃ f fd, FnG P w K mg base CX0 k f fd ps sp ∧ Mk K C f ∧ Binds K fd ps []
theorem DfI.ok {P : Program} {w : World} {K : PySem.W.Frag} {mg : Str → Option Value} {base : Heap} {C : Addr} {q : Str} {st : Stmt} {ps : List Str} {k : Nat} {sp : Sp} (D : DfI K C q st ps)
    (h : ∀ f fd, Fun K "__init__" q st f fd → FnG P w K mg base CX0 k f fd ps sp) : DnI P w K mg base C k ps sp := by
  obtain ⟨f, fd, F, mt, b⟩ := D.ex
  exact ⟨f, fd, h f fd F, mt, b⟩
theorem RoomG.make {k : Nat} {A : Around} (r : RoomG (k + 1) A) (C : Addr) (us : List Value) (kw : List (Str × Value)) : RoomG k (A.under (.builtin "type.__call__" ⟨.ref C :: us, kw⟩)) :=
  ⟨r.room.make C us kw, r.idle⟩
section
variable {X : Cx} {k : Nat} {C : Addr} {ps : List Str} {sp : Sp} {x m : Str} {p pos apos : Pos} {e o : Expr} {es : List Expr} {ta : TE} {t : TA}
theorem pe_mG {pl : Sem Bool} (D : DnM X.prog X.w X.K X.mg X.base C k m ps sp) (c : Cls X.K C) (hr : RoomG k X.A) (he : PE X o ta) (ha : PA X (e :: es) t)
    (hst : starEach (e :: es) X.env = (false, eval e X.env) :: starEach es X.env := by rfl) (hpl : (backTo pos (starEach es X.env)).any (·.1) = false := by rfl)
    (ht : eval (.Call (.Attribute o m apos) (e :: es) [] pos) X.env = (do
      let ov ← eval o X.env
      standAt apos.atName
      let (f, first) ← holding [ov] (getMethod ov m pl)
      callWith pos f first (backTo pos (starEach (e :: es) X.env)) (backToKw pos (keywordEach [] X.env))) := by rfl) :
    PE X (.Call (.Attribute o m apos) (e :: es) [] pos) (tMeth C m sp [] E0 ta t) := by
  obtain ⟨f, fd, F, hm, hb⟩ := D.ex
  refine ⟨fun pins s σ H Q I h => ?_⟩
  refine PySem.W.methodCall_KW (pl := pl) (thn (he.run pins s σ H _ I h) fun u s1 ⟨x, H1, I1, rx, a, dx, fs, ex, ea, l, q⟩ => ?_) ht
  subst ex
  obtain rfl : u = Value.ref a := rx
  refine getmeth_ok I1 ea c hm l ?_
  refine PySem.W.callWith_K (first := [.ref a]) (h₀ := X.base) I.ok.mod.kin hm.kp (thn (ha.run pos pins s1 σ H1 _ I1 q) fun us s2 ⟨vs, H2, I2, r, q2⟩ => ⟨I2.kIn, ?_⟩) hst hpl
  have q' : sp (.ref a :: vs) H2 Q E0 := by
    have z : sp (.ref a :: (vs ++ [])) H2 Q E0 := q2
    rw [List.append_nil] at z
    exact z
  exact run_G (us := .ref a :: us) (vs := .ref a :: vs) F hr hb (fun _ _ z => z.elim) I2 (.cons rfl r) q'
theorem pe_mG0 {pl : Sem Bool} (D : DnM X.prog X.w X.K X.mg X.base C k m ps sp) (c : Cls X.K C) (hr : RoomG k X.A) (he : PE X o ta)
    (ht : eval (.Call (.Attribute o m apos) [] [] pos) X.env = (do
      let ov ← eval o X.env
      standAt apos.atName
      let (f, first) ← holding [ov] (getMethod ov m pl)
      callWith pos f first (backTo pos (starEach [] X.env)) (backToKw pos (keywordEach [] X.env))) := by rfl) :
    PE X (.Call (.Attribute o m apos) [] [] pos) (tMeth C m sp [] E0 ta tNil) := by
  obtain ⟨f, fd, F, hm, hb⟩ := D.ex
  refine ⟨fun pins s σ H Q I h => ?_⟩
  refine PySem.W.methodCall_KW (pl := pl) (thn (he.run pins s σ H _ I h) fun u s1 ⟨x, H1, I1, rx, a, dx, fs, ex, ea, l, q⟩ => ?_) ht
  subst ex
  obtain rfl : u = Value.ref a := rx
  refine getmeth_ok I1 ea c hm l ?_
  exact PySem.W.callWith_K0 (first := [.ref a]) I1.kIn hm.kp (run_G (us := [.ref a]) (vs := [.ref a]) F hr hb (fun _ _ z => z.elim) I1 (.cons rfl .nil) q)
theorem run_mkG {pins : List (Addr × Obj)} {σ : L2.St} {H : Hp} {s : Shared} {Q : VK} {us : List Value} {vs : List V} {f : Addr} {fd : FuncData} (M : Mk X.K C f) (F : FnG X.prog X.w X.K X.mg X.base CX0 k f fd ps sp) (hr : RoomG (k + 1) X.A) (hb : Binds X.K fd ps [])
    (I : Inv X pins σ H s) (r : Vals vs us)
    (h : ∀ x dx, H x = none → H dx = none → dx ≠ x → sp (.ref x :: vs) (upd (upd H dx (.own x)) x (.ins C dx [])) (fun v H2 => v = .non ∧ Q (.ref x) H2) E0) :
    wpAny (model X.prog X.w) X.A (call (.ref C) us) (EP X pins σ Q) X.xe s := by
  have hq := h (s.heap.objs.size + 1) s.heap.objs.size (I.hok.fresh (Nat.le_succ _)) (I.hok.fresh (Nat.le_refl _)) (Nat.ne_of_lt (Nat.lt_succ_self _))
  have I2 := Inv.made (C := C) I
  have r2 : Vals (V.ref (s.heap.objs.size + 1) :: vs) (Value.ref (s.heap.objs.size + 1) :: us) := .cons rfl r
  have hl : (Value.ref (s.heap.objs.size + 1) :: us).length = ps.length := by
    rw [← r2.length]
    exact F.arity _ _ _ _ hq
  have b := hb { s with heap := _ } (Value.ref (s.heap.objs.size + 1) :: us) I2.kIn (by rw [List.append_nil]; exact hl)
  rw [List.append_nil] at b
  refine wpAny_call (make_map (f := f) I.kIn M.makes M.init (beq_iff_eq.mp M.fn) (codeAny_mono (F.go (hr.make C us []) (I2.env0.make C us []) b r2 hq) fun r s' hq' => ?_))
  cases r with
  | error e => exact hq'.elim
  | ok fl =>
    match fl, hq' with
    | .ret u, hq' =>
      obtain ⟨v, H', I3, rv, ev, q3⟩ := I2.after hq'
      subst ev
      exact ⟨rv, ⟨V.ref (s.heap.objs.size + 1), H', I3, rfl, q3⟩⟩
theorem pe_mkG (D : DnI X.prog X.w X.K X.mg X.base C k ps sp) (hr : RoomG (k + 1) X.A) (hg : Gl X x) (hm : X.mg x = some (.ref C)) (ha : PA X (e :: es) t) (hdb : (x == ("__debug__" : Str)) = false := by decide)
    (he : starEach (e :: es) X.env = (false, eval e X.env) :: starEach es X.env := by rfl) (hpl : (backTo pos (starEach es X.env)).any (·.1) = false := by rfl) :
    PE X (.Call (.Name x p) (e :: es) [] pos) (tMake C sp [] E0 t) := by
  obtain ⟨f, fd, F, M, hb⟩ := D.ex
  refine ⟨fun pins s σ H Q I h => ?_⟩
  refine wpAny_Call_Name_kw (ld_glob I hg hm ?_ hdb)
  refine PySem.W.callWith_K (h₀ := X.base) I.ok.mod.kin M.kp (thn (ha.run pos pins s σ H _ I h) fun us s1 ⟨vs, H1, I1, r, q⟩ => ⟨I1.kIn, ?_⟩) he hpl
  exact run_mkG M F hr hb I1 r fun x dx h1 h2 h3 => by
    have z := q x dx h1 h2 h3
    rw [List.append_nil] at z
    exact z
/-- o.f, as a target -/
def gFld (K : PySem.W.Frag) (to : TE) (f : Str) : TG := fun v σ H Q => to σ H fun x H1 => ∃ a C dx fs, x = .ref a ∧ H1 a = some (.ins C dx fs) ∧ Cls K C ∧ NoAttr K C f ∧ fs.length < 1000 ∧ Q σ (upd H1 a (.ins C dx (putF f v fs)))
theorem pg_fld {f : Str} {to : TE} (ho : PE X o to) : PG X (.Attribute o f pos) (gFld X.K to f) := by
  refine ⟨fun pins s σ H v u Q I r h => ?_⟩
  rw [assign_Attribute]
  refine wpAny_bind (wpAny_holding (thn (ho.run pins s σ H _ I h) fun ov s1 ⟨x, H1, I1, rx, a, C, dx, fs, ex, ea, c, n, l, q⟩ => ?_))
  subst ex
  obtain rfl : ov = Value.ref a := rx
  refine wpAny_bind (wpAny_standAt ?_)
  refine wpAny_bind (wpAny_holding (setattr_ok I1 ea c n l r fun s2 I2 => ?_))
  exact wpAny_release ⟨σ, _, I2, q⟩
end
end Toy
namespace Toy
open PySem PySem.Spec PyProof.Rows L2
theorem hp_same {H H' : Hp} {a : Addr} {o : HO} (s : Same H H') (h : H a = some o) : H' a = some o := s _ _ h
theorem hp_at {H H' : Hp} {a : Addr} {o : HO} (h : H a = some o) (s : Same H H') : H' a = some o := s _ _ h
theorem sql_at {K : PySem.W.Frag} {H H' : Hp} {p : Addr} {xs : List V} (h : SqL K H p xs) (s : Same H H') : SqL K H' p xs := s.seq h
theorem sqt_at {K : PySem.W.Frag} {H H' : Hp} {a : Addr} {xs : List V} (h : SqT K H a xs) (s : Same H H') : SqT K H' a xs := same_tup s h
theorem same_bk {H M H' : Hp} (b : Same M H') (a : Same H M) : Same H H' := a.trans b
theorem hp_new {H : Hp} {l a : Addr} {o u : HO} (n : H l = none) (h : H a = some o) : upd H l u a = some o := same_new n u _ _ h
theorem s1k : 1000 ≤ sizeLine := by decide
theorem lk1000 {n : Nat} (h : n ≤ 1000) : n ≤ sizeLine := Nat.le_trans h s1k
theorem lt1000 {n : Nat} (h : n < 1000) : n < sizeLine := Nat.lt_of_lt_of_le h s1k
theorem tyL {K : PySem.W.Frag} {H : Hp} {p : Addr} {xs : List V} (h : H p = some (.lst xs)) : tyV K "list" (.ref p) H := .inl ⟨rfl, xs, SqL.of h⟩
theorem sq_same {K : PySem.W.Frag} {H H' : Hp} {p : Addr} {xs : List V} (s : Same H H') (h : SqL K H p xs) : SqL K H' p xs := s.seq h
theorem newS {H H' : Hp} {l : Addr} {o : HO} (e : upd H l o = H') (n : H l = none) : Same H H' := e ▸ same_new n o
theorem newO {H H' : Hp} {l : Addr} {o : HO} (e : upd H l o = H') : H' l = some o := e ▸ upd_same
end Toy
namespace Toy
open PySem PySem.Spec PyProof.Rows L2
/-! ### what may raise -/
section
variable {X : Cx} {k : Nat} {ps : List Str} {sp : Sp} {x : Str} {p pos : Pos} {e : Expr} {es : List Expr} {t : TA} {W : WX}
theorem cx_no {outer : List Env} {H : Hp} {s : Shared} {e : Value} {s' : Shared} {P : Program} {w : World} (h : L2.CX P w outer H s E0 e s') : False := by
  obtain ⟨_, _, _, _, _, _, _, _, _, _, _, _, z⟩ := h
  exact z.elim
/-- a call that may raise; W takes what is raised -/
theorem pe_cW (D : Dx X.prog X.w X.K X.mg X.base k x ps sp) (hr : RoomG k X.A) (tk : Takes X W) (hg : Gl X x) (ha : PA X (e :: es) t) (hdb : (x == ("__debug__" : Str)) = false := by decide)
    (he : starEach (e :: es) X.env = (false, eval e X.env) :: starEach es X.env := by rfl) (hpl : (backTo pos (starEach es X.env)).any (·.1) = false := by rfl) : PE X (.Call (.Name x p) (e :: es) [] pos) (tCallS sp (WE W) t) := by
  obtain ⟨f, fd, F, hk, hm, hb⟩ := D.ex
  exact ⟨fun pins s σ H Q I h => wpAny_Call_Name_kw (ld_glob I hg hm (PySem.W.callWith_K (h₀ := X.base) I.ok.mod.kin hk (thn (ha.run pos pins s σ H _ I h) fun us s1 ⟨vs, H1, I1, r, q⟩ => ⟨I1.kIn, run_G F hr hb (fun e s' c => passAt tk σ pins H1 s1 e s' I1 c) I1 r q⟩) he hpl) hdb)⟩
theorem pe_cW0 (D : Dx X.prog X.w X.K X.mg X.base k x ps sp) (hr : RoomG k X.A) (tk : Takes X W) (hg : Gl X x) (hdb : (x == ("__debug__" : Str)) = false := by decide) : PE X (.Call (.Name x p) [] [] pos) (tCallS sp (WE W) tNil) := by
  obtain ⟨f, fd, F, hk, hm, hb⟩ := D.ex
  exact ⟨fun pins s σ H Q I h => wpAny_Call_Name_kw (ld_glob I hg hm (PySem.W.callWith_K0 I.kIn hk (run_G (us := []) F hr hb (fun e s' c => passAt tk σ pins H s e s' I c) I .nil h)) hdb)⟩
/-- .. that does not raise here -/
theorem pe_cXn (D : Dx X.prog X.w X.K X.mg X.base k x ps sp) (hr : RoomG k X.A) (hg : Gl X x) (ha : PA X (e :: es) t) (hdb : (x == ("__debug__" : Str)) = false := by decide)
    (he : starEach (e :: es) X.env = (false, eval e X.env) :: starEach es X.env := by rfl) (hpl : (backTo pos (starEach es X.env)).any (·.1) = false := by rfl) : PE X (.Call (.Name x p) (e :: es) [] pos) (tCall sp [] E0 t) := by
  obtain ⟨f, fd, F, hk, hm, hb⟩ := D.ex
  refine ⟨fun pins s σ H Q I h => wpAny_Call_Name_kw (ld_glob I hg hm (PySem.W.callWith_K (h₀ := X.base) I.ok.mod.kin hk (thn (ha.run pos pins s σ H _ I h) fun us s1 ⟨vs, H1, I1, r, q⟩ => ⟨I1.kIn, ?_⟩) he hpl) hdb)⟩
  have q' : sp vs H1 Q E0 := by
    have z : sp (vs ++ []) H1 Q E0 := q
    rw [List.append_nil] at z
    exact z
  exact run_G F hr hb (fun _ _ z => (cx_no z).elim) I1 r q'
/-- a def with defaults that may raise -/
structure DxD (P : Program) (w : World) (K : PySem.W.Frag) (mg : Str → Option Value) (base : Heap) (k : Nat) (x : Str) (ps : List Str) (dvs : List V) (sp : Sp) : Prop where
  ex : ∃ (f : Addr) (fd : FuncData) (ds : List Value), FnG P w K mg base (L2.CX P w) k f fd ps sp ∧ PySem.W.keepIn K (.ref f) = true ∧ mg x = some (.ref f) ∧ Binds K fd ps ds ∧ Vals dvs ds
theorem Dfd.okX {P : Program} {w : World} {K : PySem.W.Frag} {mg : Str → Option Value} {base : Heap} {x : Str} {st : Stmt} {dvs : List V} (D : Dfd K mg x st ps dvs)
    (h : ∀ f fd, FunA K x x st f fd → FnG P w K mg base (L2.CX P w) k f fd ps sp) : DxD P w K mg base k x ps dvs sp := by
  obtain ⟨f, fd, ds, F, kp, m, b, d⟩ := D.ex
  exact ⟨f, fd, ds, h f fd F, kp, m, b, d⟩
theorem pe_cXd {dvs : List V} (D : DxD X.prog X.w X.K X.mg X.base k x ps dvs sp) (hr : RoomG k X.A) (tk : Takes X W) (hg : Gl X x) (ha : PA X (e :: es) t) (hdb : (x == ("__debug__" : Str)) = false := by decide)
    (he : starEach (e :: es) X.env = (false, eval e X.env) :: starEach es X.env := by rfl) (hpl : (backTo pos (starEach es X.env)).any (·.1) = false := by rfl) : PE X (.Call (.Name x p) (e :: es) [] pos) (fun σ H Q => t σ H fun vs H1 => sp (vs ++ dvs) H1 Q (WE W σ)) := by
  obtain ⟨f, fd, ds, F, hk, hm, hb, hd⟩ := D.ex
  exact ⟨fun pins s σ H Q I h => wpAny_Call_Name_kw (ld_glob I hg hm (PySem.W.callWith_K (h₀ := X.base) I.ok.mod.kin hk (thn (ha.run pos pins s σ H _ I h) fun us s1 ⟨vs, H1, I1, r, q⟩ => ⟨I1.kIn, run_Gd F hr hb hd (fun e s' c => passAt tk σ pins H1 s1 e s' I1 c) I1 r q⟩) he hpl) hdb)⟩
theorem pe_cXdn {dvs : List V} (D : DxD X.prog X.w X.K X.mg X.base k x ps dvs sp) (hr : RoomG k X.A) (hg : Gl X x) (ha : PA X (e :: es) t) (hdb : (x == ("__debug__" : Str)) = false := by decide)
    (he : starEach (e :: es) X.env = (false, eval e X.env) :: starEach es X.env := by rfl) (hpl : (backTo pos (starEach es X.env)).any (·.1) = false := by rfl) : PE X (.Call (.Name x p) (e :: es) [] pos) (tCall sp dvs E0 t) := by
  obtain ⟨f, fd, ds, F, hk, hm, hb, hd⟩ := D.ex
  exact ⟨fun pins s σ H Q I h => wpAny_Call_Name_kw (ld_glob I hg hm (PySem.W.callWith_K (h₀ := X.base) I.ok.mod.kin hk (thn (ha.run pos pins s σ H _ I h) fun us s1 ⟨vs, H1, I1, r, q⟩ => ⟨I1.kIn, run_Gd F hr hb hd (fun _ _ z => (cx_no z).elim) I1 r q⟩) he hpl) hdb)⟩
/-- a method that may raise -/
structure DxM (P : Program) (w : World) (K : PySem.W.Frag) (mg : Str → Option Value) (base : Heap) (C : Addr) (k : Nat) (m : Str) (ps : List Str) (sp : Sp) : Prop where
  ex : ∃ f fd, FnG P w K mg base (L2.CX P w) k f fd ps sp ∧ Meth K C m f ∧ Binds K fd ps []
theorem DfM.okX {P : Program} {w : World} {K : PySem.W.Frag} {mg : Str → Option Value} {base : Heap} {C : Addr} {m q : Str} {st : Stmt} (D : DfM K C m q st ps)
    (h : ∀ f fd, Fun K m q st f fd → FnG P w K mg base (L2.CX P w) k f fd ps sp) : DxM P w K mg base C k m ps sp := by
  obtain ⟨f, fd, F, mt, b⟩ := D.ex
  exact ⟨f, fd, h f fd F, mt, b⟩
variable {m : Str} {apos : Pos} {o : Expr} {ta : TE} {C : Addr}
def tMethX (C : Addr) (m : Str) (sp : Sp) (W : WX) (ta : TE) (t : TA) : TE := fun σ H Q => ta σ H fun x H1 => ∃ a dx fs, x = .ref a ∧ H1 a = some (.ins C dx fs) ∧ fs.lookup m = none ∧ t σ H1 fun vs H2 => sp (x :: vs) H2 Q (WE W σ)
theorem pe_mX {pl : Sem Bool} (D : DxM X.prog X.w X.K X.mg X.base C k m ps sp) (c : Cls X.K C) (hr : RoomG k X.A) (tk : Takes X W) (he : PE X o ta) (ha : PA X (e :: es) t)
    (hst : starEach (e :: es) X.env = (false, eval e X.env) :: starEach es X.env := by rfl) (hpl : (backTo pos (starEach es X.env)).any (·.1) = false := by rfl)
    (ht : eval (.Call (.Attribute o m apos) (e :: es) [] pos) X.env = (do
      let ov ← eval o X.env
      standAt apos.atName
      let (f, first) ← holding [ov] (getMethod ov m pl)
      callWith pos f first (backTo pos (starEach (e :: es) X.env)) (backToKw pos (keywordEach [] X.env))) := by rfl) :
    PE X (.Call (.Attribute o m apos) (e :: es) [] pos) (tMethX C m sp W ta t) := by
  obtain ⟨f, fd, F, hm, hb⟩ := D.ex
  refine ⟨fun pins s σ H Q I h => ?_⟩
  refine PySem.W.methodCall_KW (pl := pl) (thn (he.run pins s σ H _ I h) fun u s1 ⟨x, H1, I1, rx, a, dx, fs, ex, ea, l, q⟩ => ?_) ht
  subst ex
  obtain rfl : u = Value.ref a := rx
  refine getmeth_ok I1 ea c hm l ?_
  refine PySem.W.callWith_K (first := [.ref a]) (h₀ := X.base) I.ok.mod.kin hm.kp (thn (ha.run pos pins s1 σ H1 _ I1 q) fun us s2 ⟨vs, H2, I2, r, q2⟩ => ⟨I2.kIn, ?_⟩) hst hpl
  exact run_G (us := .ref a :: us) (vs := .ref a :: vs) F hr hb (fun e s' c => passAt tk σ pins H2 s2 e s' I2 c) I2 (.cons rfl r) q2
theorem pe_mXn {pl : Sem Bool} (D : DxM X.prog X.w X.K X.mg X.base C k m ps sp) (c : Cls X.K C) (hr : RoomG k X.A) (he : PE X o ta) (ha : PA X (e :: es) t)
    (hst : starEach (e :: es) X.env = (false, eval e X.env) :: starEach es X.env := by rfl) (hpl : (backTo pos (starEach es X.env)).any (·.1) = false := by rfl)
    (ht : eval (.Call (.Attribute o m apos) (e :: es) [] pos) X.env = (do
      let ov ← eval o X.env
      standAt apos.atName
      let (f, first) ← holding [ov] (getMethod ov m pl)
      callWith pos f first (backTo pos (starEach (e :: es) X.env)) (backToKw pos (keywordEach [] X.env))) := by rfl) :
    PE X (.Call (.Attribute o m apos) (e :: es) [] pos) (tMeth C m sp [] E0 ta t) := by
  obtain ⟨f, fd, F, hm, hb⟩ := D.ex
  refine ⟨fun pins s σ H Q I h => ?_⟩
  refine PySem.W.methodCall_KW (pl := pl) (thn (he.run pins s σ H _ I h) fun u s1 ⟨x, H1, I1, rx, a, dx, fs, ex, ea, l, q⟩ => ?_) ht
  subst ex
  obtain rfl : u = Value.ref a := rx
  refine getmeth_ok I1 ea c hm l ?_
  refine PySem.W.callWith_K (first := [.ref a]) (h₀ := X.base) I.ok.mod.kin hm.kp (thn (ha.run pos pins s1 σ H1 _ I1 q) fun us s2 ⟨vs, H2, I2, r, q2⟩ => ⟨I2.kIn, ?_⟩) hst hpl
  have q' : sp (.ref a :: vs) H2 Q E0 := by
    have z : sp (.ref a :: (vs ++ [])) H2 Q E0 := q2
    rw [List.append_nil] at z
    exact z
  exact run_G (us := .ref a :: us) (vs := .ref a :: vs) F hr hb (fun _ _ z => (cx_no z).elim) I2 (.cons rfl r) q'
/-- a maker that may raise -/
structure DxI (P : Program) (w : World) (K : PySem.W.Frag) (mg : Str → Option Value) (base : Heap) (C : Addr) (k : Nat) (ps : List Str) (sp : Sp) : Prop where
  ex : ∃ f fd, FnG P w K mg base (L2.CX P w) k f fd ps sp ∧ Mk K C f ∧ Binds K fd ps []
theorem DfI.okX {P : Program} {w : World} {K : PySem.W.Frag} {mg : Str → Option Value} {base : Heap} {C : Addr} {q : Str} {st : Stmt} (D : DfI K C q st ps)
    (h : ∀ f fd, Fun K "__init__" q st f fd → FnG P w K mg base (L2.CX P w) k f fd ps sp) : DxI P w K mg base C k ps sp := by
  obtain ⟨f, fd, F, mt, b⟩ := D.ex
  exact ⟨f, fd, h f fd F, mt, b⟩
theorem run_mkX {pins : List (Addr × Obj)} {σ : L2.St} {H : Hp} {s : Shared} {Q : VK} {E : XK} {us : List Value} {vs : List V} {f : Addr} {fd : FuncData} (M : Mk X.K C f) (F : FnG X.prog X.w X.K X.mg X.base (L2.CX X.prog X.w) k f fd ps sp) (hr : RoomG (k + 1) X.A) (hb : Binds X.K fd ps [])
    (out : ∀ (H2 : Hp) (s2 : Shared) e s', Inv X pins σ H2 s2 → L2.CX X.prog X.w X.stack H2 s2 E e s' → X.xe e s') (I : Inv X pins σ H s) (r : Vals vs us)
    (h : ∀ x dx, H x = none → H dx = none → dx ≠ x → sp (.ref x :: vs) (upd (upd H dx (.own x)) x (.ins C dx [])) (fun v H2 => v = .non ∧ Q (.ref x) H2) E) :
    wpAny (model X.prog X.w) X.A (call (.ref C) us) (EP X pins σ Q) X.xe s := by
  have hq := h (s.heap.objs.size + 1) s.heap.objs.size (I.hok.fresh (Nat.le_succ _)) (I.hok.fresh (Nat.le_refl _)) (Nat.ne_of_lt (Nat.lt_succ_self _))
  have I2 := Inv.made (C := C) I
  have r2 : Vals (V.ref (s.heap.objs.size + 1) :: vs) (Value.ref (s.heap.objs.size + 1) :: us) := .cons rfl r
  have hl : (Value.ref (s.heap.objs.size + 1) :: us).length = ps.length := by
    rw [← r2.length]
    exact F.arity _ _ _ _ hq
  have b := hb { s with heap := _ } (Value.ref (s.heap.objs.size + 1) :: us) I2.kIn (by rw [List.append_nil]; exact hl)
  rw [List.append_nil] at b
  refine wpAny_call (make_map (f := f) I.kIn M.makes M.init (beq_iff_eq.mp M.fn) (codeAny_mono (F.go (hr.make C us []) (I2.env0.make C us []) b r2 hq) fun r s' hq' => ?_))
  cases r with
  | error e => exact out _ _ e s' I2 hq'
  | ok fl =>
    match fl, hq' with
    | .ret u, hq' =>
      obtain ⟨v, H', I3, rv, ev, q3⟩ := I2.after hq'
      subst ev
      exact ⟨rv, ⟨V.ref (s.heap.objs.size + 1), H', I3, rfl, q3⟩⟩
def tMakeX (C : Addr) (sp : Sp) (W : WX) (t : TA) : TE := fun σ H Q => t σ H fun vs H1 => ∀ x dx, H1 x = none → H1 dx = none → dx ≠ x → sp (.ref x :: vs) (upd (upd H1 dx (.own x)) x (.ins C dx [])) (fun v H2 => v = .non ∧ Q (.ref x) H2) (WE W σ)
theorem pe_mkX (D : DxI X.prog X.w X.K X.mg X.base C k ps sp) (hr : RoomG (k + 1) X.A) (tk : Takes X W) (hg : Gl X x) (hm : X.mg x = some (.ref C)) (ha : PA X (e :: es) t) (hdb : (x == ("__debug__" : Str)) = false := by decide)
    (he : starEach (e :: es) X.env = (false, eval e X.env) :: starEach es X.env := by rfl) (hpl : (backTo pos (starEach es X.env)).any (·.1) = false := by rfl) :
    PE X (.Call (.Name x p) (e :: es) [] pos) (tMakeX C sp W t) := by
  obtain ⟨f, fd, F, M, hb⟩ := D.ex
  refine ⟨fun pins s σ H Q I h => ?_⟩
  refine wpAny_Call_Name_kw (ld_glob I hg hm ?_ hdb)
  refine PySem.W.callWith_K (h₀ := X.base) I.ok.mod.kin M.kp (thn (ha.run pos pins s σ H _ I h) fun us s1 ⟨vs, H1, I1, r, q⟩ => ⟨I1.kIn, ?_⟩) he hpl
  exact run_mkX M F hr hb (fun H2 s2 e s' I2 c => passAt tk σ pins H2 s2 e s' I2 c) I1 r q
theorem pe_mkXn (D : DxI X.prog X.w X.K X.mg X.base C k ps sp) (hr : RoomG (k + 1) X.A) (hg : Gl X x) (hm : X.mg x = some (.ref C)) (ha : PA X (e :: es) t) (hdb : (x == ("__debug__" : Str)) = false := by decide)
    (he : starEach (e :: es) X.env = (false, eval e X.env) :: starEach es X.env := by rfl) (hpl : (backTo pos (starEach es X.env)).any (·.1) = false := by rfl) :
    PE X (.Call (.Name x p) (e :: es) [] pos) (tMake C sp [] E0 t) := by
  obtain ⟨f, fd, F, M, hb⟩ := D.ex
  refine ⟨fun pins s σ H Q I h => ?_⟩
  refine wpAny_Call_Name_kw (ld_glob I hg hm ?_ hdb)
  refine PySem.W.callWith_K (h₀ := X.base) I.ok.mod.kin M.kp (thn (ha.run pos pins s σ H _ I h) fun us s1 ⟨vs, H1, I1, r, q⟩ => ⟨I1.kIn, ?_⟩) he hpl
  exact run_mkX M F hr hb (fun _ _ _ _ _ c => (cx_no c).elim) I1 r fun x dx h1 h2 h3 => by
    have z := q x dx h1 h2 h3
    rw [List.append_nil] at z
    exact z
end
/-- bodies that may raise -/
theorem okGX {P : Program} {w : World} {K : PySem.W.Frag} {mg : Str → Option Value} {base : Heap} {x qual : Str} {st : Stmt} {f : Addr} {fd : FuncData} {N ps : List Str} {k : Nat} {sp : Sp} (F : Fun K x qual st f fd) (S : FnScope N ps (defScope st)) (ar : ∀ vs H Q E, sp vs H Q E → vs.length = ps.length)
    (body : ∀ (cdv : Value) (A : Around) (outer : List Env) (s : Shared) (H : Hp) (vs : List V) (Q : VK) (E : XK), RoomG k (A.deeper (envOfC qual (defScope st) s.heap.objs.size f cdv)) → sp vs H Q E →
      ∃ t, PSs (cxOf (L2.CX P w) P w K mg base N qual (defScope st) f cdv A outer s H E) (defBody st) t ∧ t { nx := fun _ H' => Q .non H', rt := Q } (start N vs) H) : FnG P w K mg base (L2.CX P w) (k + 1) f fd ps sp :=
  okGA (toA F) S ar body
/-- a class of errors -/
structure ExcF (K : PySem.W.Frag) (mg : Str → Option Value) (x : Str) : Prop where
  mg_ : mg x = some (.ref (cAt mg x))
  ex : PySem.W.excIn K (cAt mg x) [.type "ValueError", .type "Exception", .type "BaseException", .type "object"] "ValueError.__new__" = true
  kp : PySem.W.keepIn K (.ref (cAt mg x)) = true
  bs : PySem.W.subIn K (.ref (cAt mg x)) (.type "BaseException") = some true
  tp : PySem.W.typeIn K (.ref (cAt mg x)) = some (.type "type")
  is : PySem.W.isClsIn K (cAt mg x) = true
theorem ExcF.of {K : PySem.W.Frag} {mg : Str → Option Value} {x : Str} {C : Addr} (m : mg x = some (.ref C)) (h1 : PySem.W.excIn K C [.type "ValueError", .type "Exception", .type "BaseException", .type "object"] "ValueError.__new__" = true) (h2 : PySem.W.keepIn K (.ref C) = true)
    (h3 : PySem.W.subIn K (.ref C) (.type "BaseException") = some true) (h4 : PySem.W.typeIn K (.ref C) = some (.type "type")) (h5 : PySem.W.isClsIn K C = true) : ExcF K mg x := by
  have e := cAt_eq m
  exact ⟨by rw [e]; exact m, by rw [e]; exact h1, by rw [e]; exact h2, by rw [e]; exact h3, by rw [e]; exact h4, by rw [e]; exact h5⟩
/-- one class stands under another one, or does not -/
def SubF (K : PySem.W.Frag) (mg : Str → Option Value) (x y : Str) (b : Bool) : Prop := PySem.W.subIn K (.ref (cAt mg x)) (.ref (cAt mg y)) = some b
theorem SubF.of {K : PySem.W.Frag} {mg : Str → Option Value} {x y : Str} {C D : Addr} {b : Bool} (m : mg x = some (.ref C)) (m' : mg y = some (.ref D)) (h : PySem.W.subIn K (.ref C) (.ref D) = some b) : SubF K mg x y b := by
  unfold SubF
  rw [cAt_eq m, cAt_eq m']
  exact h
/-- what an except clause asks -/
theorem exm_of {K : PySem.W.Frag} {mg : Str → Option Value} {x y : Str} {b : Bool} (Y : ExcF K mg y) (h : SubF K mg x y b) : PySem.W.exmOne K (.ref (cAt mg x)) (.ref (cAt mg y)) = some b := by
  have e1 : (PySem.W.subIn K (.ref (cAt mg y)) (.type "BaseException") == some true) = true := by rw [Y.bs] <;> rfl
  have e2 : ((PySem.W.clsIn K (cAt mg y)).isSome && PySem.W.typeIn K (.ref (cAt mg y)) == some (.type "type")) = true := by
    have h2' : (PySem.W.clsIn K (cAt mg y)).isSome = true := Y.is
    rw [h2', Y.tp] <;> rfl
  show (if (PySem.W.subIn K (.ref (cAt mg y)) (.type "BaseException") == some true) = true then (if ((PySem.W.clsIn K (cAt mg y)).isSome && PySem.W.typeIn K (.ref (cAt mg y)) == some (.type "type")) = true then PySem.W.subIn K (.ref (cAt mg x)) (.ref (cAt mg y)) else none) else none) = some b
  rw [if_pos e1, if_pos e2]
  exact h
end Toy
namespace Toy
open PySem PySem.Spec PyProof.Rows L2
/-! ### isinstance of a caught error -/
def rIsX (K : PySem.W.Frag) (cls : Value) (d : Option Addr) (a : Addr) : List V → Hp → VK → Prop := fun xs H Q => ∃ (D : Addr) (c : V) (cv : Value) (b : Bool), xs = [.ref a, c] ∧ cls = .ref D ∧ d = none ∧ ExcC K D ∧ ClsV c cv ∧ PySem.W.kitOne K (.ref D) cv = some b ∧ Q (.bl b) H
theorem call_isX {X : Cx} {a : Addr} {cls : Value} {d : Option Addr} {oe : Obj} {pn : List (Addr × Obj)} (hz : Zc cls d oe) (hf : ∃ vs, oe.data = .fields vs) : CallR (X.suite a ((a, oe) :: pn)) (.builtin "isinstance") (rIsX X.K cls d a) := by
  intro pins s σ H xs us Q I r h
  obtain ⟨D, c, cv, b, rfl, rfl, rfl, C, hc, e, q⟩ := h
  exact call_isE C hz hf pins s σ H _ us Q I r ⟨c, cv, b, rfl, fun u ru => hc.eq ru, e, q⟩
/-- .. with a tuple of classes -/
def rIsXT (K : PySem.W.Frag) (cls : Value) (d : Option Addr) (a : Addr) : List V → Hp → VK → Prop := fun xs H Q => ∃ (D tp : Addr) (cs : List V) (us : List Value) (b : Bool), xs = [.ref a, .ref tp] ∧ cls = .ref D ∧ d = none ∧ ExcC K D ∧ H tp = some (.tup cs) ∧ Paired ClsV cs us ∧ PySem.W.kitAny K (.ref D) us = some b ∧ Q (.bl b) H
theorem call_isXT {X : Cx} {a : Addr} {cls : Value} {d : Option Addr} {oe : Obj} {pn : List (Addr × Obj)} (hz : Zc cls d oe) (hf : ∃ vs, oe.data = .fields vs) : CallR (X.suite a ((a, oe) :: pn)) (.builtin "isinstance") (rIsXT X.K cls d a) := by
  intro pins s σ H xs us Q I r h
  obtain ⟨D, tp, cs, ws, b, rfl, rfl, rfl, C, hT, k, e, q⟩ := h
  obtain ⟨u1, u2, rfl, r1, r2⟩ := vals2 r
  cases (show u1 = Value.ref a from r1)
  cases (show u2 = Value.ref tp from r2)
  obtain ⟨hget, _⟩ := I.pin (a, oe) (List.mem_append.mpr (.inl List.mem_cons_self))
  obtain ⟨vs, hv⟩ := hf
  have J : PySem.W.InstAt s.heap a oe D none := by
    obtain ⟨oc, od, oda, osl⟩ := oe
    obtain ⟨h1, h2⟩ := hz
    dsimp only at h1 h2 hv
    subst h1 h2 hv
    exact ⟨hget, rfl, rfl, trivial⟩
  obtain ⟨_, its, rv, o, h1, h2, n, h3⟩ := (show ObjOk (X.suite a ((a, oe) :: pn)).prog (X.suite a ((a, oe) :: pn)).w H s.heap tp (.tup cs) from I.hok tp _ hT)
  have e3 := ClsV.all k rv
  subst e3
  obtain ⟨oc, od, dt, sl⟩ := o
  simp only at h2 h3
  subst h2 h3
  exact PySem.W.kia_tup (PySem.W.handS_kitx_exc C.hg C.hk C.hs C.hd C.ha C.hn C.ht C.hm) I.kIn J h1 e (fun z => nomatch z) fun tk => ⟨.bl b, H, I.kept (t' := tk) fun _ _ z => z, rfl, q⟩
/-- one class, asked by isinstance -/
theorem kitO {K : PySem.W.Frag} {mg : Str → Option Value} {x y : Str} {b : Bool} (Y : ExcF K mg y) (hx : SubF K mg x x true) (h : SubF K mg x y b) : PySem.W.kitOne K (.ref (cAt mg x)) (.ref (cAt mg y)) = some b := by
  unfold PySem.W.kitOne
  by_cases e : (Value.ref (cAt mg x) == Value.ref (cAt mg y)) = true
  · rw [if_pos e]
    have e' : cAt mg x = cAt mg y := Value.ref.inj (beq_iff_eq.mp e)
    unfold SubF at h hx
    rw [← e', hx] at h
    exact h
  · rw [if_neg e]
    have e2 : ((PySem.W.clsIn K (cAt mg y)).isSome && PySem.W.typeIn K (.ref (cAt mg y)) == some (.type "type")) = true := by
      have h2' : (PySem.W.clsIn K (cAt mg y)).isSome = true := Y.is
      rw [h2', Y.tp] <;> rfl
    show (if ((PySem.W.clsIn K (cAt mg y)).isSome && PySem.W.typeIn K (.ref (cAt mg y)) == some (.type "type")) = true then PySem.W.subIn K (.ref (cAt mg x)) (.ref (cAt mg y)) else none) = some b
    rw [if_pos e2]
    exact h
structure ExcI (K : PySem.W.Frag) (mg : Str → Option Value) (x : Str) : Prop where
  c : ExcC K (cAt mg x)
  ve : PySem.W.subIn K (.ref (cAt mg x)) (.type "ValueError") = some true
theorem ExcI.of {K : PySem.W.Frag} {mg : Str → Option Value} {x : Str} {C : Addr} (m : mg x = some (.ref C)) (h : ExcC K C) (v : PySem.W.subIn K (.ref C) (.type "ValueError") = some true) : ExcI K mg x := by
  have e := cAt_eq m
  exact ⟨by rw [e]; exact h, by rw [e]; exact v⟩
theorem kitVE {K : PySem.W.Frag} {mg : Str → Option Value} {x : Str} (h : ExcI K mg x) : PySem.W.kitOne K (.ref (cAt mg x)) (.type "ValueError") = some true := by
  unfold PySem.W.kitOne
  have e : ¬ (Value.ref (cAt mg x) == Value.type "ValueError") = true := fun z => by cases (beq_iff_eq.mp z)
  rw [if_neg e]
  show (if PySem.W.kitMeta "ValueError" = true then PySem.W.subIn K (.ref (cAt mg x)) (.type "ValueError") else none) = some true
  rw [if_pos (by decide +kernel)]
  exact h.ve
end Toy
namespace Toy
open PySem PySem.Spec PyProof.Rows L2
theorem kitAnyF {K : PySem.W.Frag} {mg : Str → Option Value} {t : Value} : ∀ {ys : List Str}, (∀ y ∈ ys, PySem.W.kitOne K t (.ref (cAt mg y)) = some false) → PySem.W.kitAny K t (ys.map fun y => Value.ref (cAt mg y)) = some false
  | [], _ => kitAny_nil
  | y :: ys, h => kitAny_cons (h y List.mem_cons_self) (fun _ => kitAnyF fun z hz => h z (List.mem_cons_of_mem _ hz)) (fun z => by cases z)
theorem pairOwn {mg : Str → Option Value} : ∀ ys : List Str, Paired ClsV (ys.map fun y => V.ref (cAt mg y)) (ys.map fun y => Value.ref (cAt mg y))
  | [] => .nil
  | y :: ys => .cons (.own _) (pairOwn ys)
end Toy
namespace Toy
open PySem PySem.Spec PyProof.Rows L2
section
variable {X : Cx} {i k1 k2 : Nat} {x : Str} {p pos : Pos} {e : Expr} {es : List Expr} {t : TA} {W : WX}
/-- a local that holds one of two defs, called; both may raise -/
def tCvW (i : Nat) (f1 f2 : Addr) (sp1 sp2 : Sp) (W : WX) (t : TA) : TE := fun σ H Q =>
  (σ[i]? = some (some (.ref f1)) ∧ t σ H fun vs H1 => sp1 vs H1 Q (WE W σ)) ∨ (σ[i]? = some (some (.ref f2)) ∧ t σ H fun vs H1 => sp2 vs H1 Q (WE W σ))
theorem Dx.mg {P : Program} {w : World} {K : PySem.W.Frag} {mg : Str → Option Value} {base : Heap} {k : Nat} {x : Str} {ps : List Str} {sp : Sp} (D : Dx P w K mg base k x ps sp) : mg x = some (.ref (cAt mg x)) := by
  obtain ⟨f, fd, F, hk, hm, hb⟩ := D.ex
  rw [cAt_eq hm]
  exact hm
theorem pe_cvW {mg : Str → Option Value} {x1 x2 : Str} {ps1 ps2 : List Str} {sp1 sp2 : Sp} (D1 : Dx X.prog X.w X.K mg X.base k1 x1 ps1 sp1) (D2 : Dx X.prog X.w X.K mg X.base k2 x2 ps2 sp2) (r1 : RoomG k1 X.A) (r2 : RoomG k2 X.A) (tk : Takes X W) (ha : PA X (e :: es) t)
    (hN : X.N[i]? = some x := by rfl) (hv : Vis X.env.scope x := by first | exact Or.inl rfl | exact Or.inr (Or.inl rfl) | exact Or.inr (Or.inr rfl)) (hd : (x == ("__debug__" : Str)) = false := by decide) (hcd : (x == ("__classdict__" : Str)) = false := by decide)
    (he : starEach (e :: es) X.env = (false, eval e X.env) :: starEach es X.env := by rfl) (hpl : (backTo pos (starEach es X.env)).any (·.1) = false := by rfl) (em : mg = X.mg := by rfl) :
    PE X (.Call (.Name x p) (e :: es) [] pos) (tCvW i (cAt mg x1) (cAt mg x2) sp1 sp2 W t) := by
  subst em
  have one : ∀ {k : Nat} {y : Str} {ps : List Str} {sp : Sp} (pins : List (Addr × Obj)) (s : Shared) (σ : L2.St) (H : Hp) (Q : VK), Dx X.prog X.w X.K X.mg X.base k y ps sp → RoomG k X.A → Inv X pins σ H s → σ[i]? = some (some (.ref (cAt X.mg y))) →
      (t σ H fun vs H1 => sp vs H1 Q (WE W σ)) → wpAny (model X.prog X.w) X.A (eval (.Call (.Name x p) (e :: es) [] pos) X.env) (EP X pins σ Q) X.xe s := by
    intro k y ps sp pins s σ H Q D hr I hs ht
    obtain ⟨f, fd, F, hk, hm, hb⟩ := D.ex
    rw [cAt_eq hm] at hs
    have look := (pe_var (pos := p) hN hv hd hcd).run pins s σ H (fun v H1 => v = .ref f ∧ H1 = H) I ⟨.ref f, hs, rfl, rfl⟩
    refine wpAny_Call_Name_kw (thn look ?_)
    rintro u s1 ⟨v, H1, I1, q1, rfl, rfl⟩
    cases q1
    have args := ha.run pos pins s1 σ _ _ I1 ht
    refine PySem.W.callWith_K (h₀ := X.base) I.ok.mod.kin hk (thn args ?_) he hpl
    rintro us s2 ⟨vs, H2, I2, r, q⟩
    exact ⟨I2.kIn, run_G F hr hb (fun e s' c => passAt tk σ pins H2 s2 e s' I2 c) I2 r q⟩
  constructor
  rintro pins s σ H Q I (⟨h1, h2⟩ | ⟨h1, h2⟩)
  · exact one pins s σ H Q D1 r1 I h1 h2
  · exact one pins s σ H Q D2 r2 I h1 h2
end
end Toy
namespace Toy
open PySem L2
def top (i : Nat) : Stmt := PySem.Challenge.pw_joinedasks_k32_whole_meet_and_part.main.body.getD i (.Pass ⟨0, 0, 0, 0⟩)
abbrev s_is_whole : Stmt := top 8
theorem sc_is_whole : FnScope ["thing"] ["thing"] (defScope s_is_whole) := ⟨rfl, rfl, rfl, by decide +kernel, rfl, by decide +kernel, by decide +kernel⟩
abbrev s_is_within : Stmt := top 9
theorem sc_is_within : FnScope ["thing", "least", "most"] ["thing", "least", "most"] (defScope s_is_within) := ⟨rfl, rfl, rfl, by decide +kernel, rfl, by decide +kernel, by decide +kernel⟩
abbrev s_want_net : Stmt := top 10
theorem sc_want_net : FnScope ["k", "deepest"] ["k", "deepest"] (defScope s_want_net) := ⟨rfl, rfl, rfl, by decide +kernel, rfl, by decide +kernel, by decide +kernel⟩
abbrev s_is_line : Stmt := top 12
theorem sc_is_line : FnScope ["k", "thing"] ["k", "thing"] (defScope s_is_line) := ⟨rfl, rfl, rfl, by decide +kernel, rfl, by decide +kernel, by decide +kernel⟩
abbrev s_want_hand : Stmt := top 13
theorem sc_want_hand : FnScope ["k", "thing"] ["k", "thing"] (defScope s_want_hand) := ⟨rfl, rfl, rfl, by decide +kernel, rfl, by decide +kernel, by decide +kernel⟩
abbrev s_want_side : Stmt := top 14
theorem sc_want_side : FnScope ["k", "thing"] ["k", "thing"] (defScope s_want_side) := ⟨rfl, rfl, rfl, by decide +kernel, rfl, by decide +kernel, by decide +kernel⟩
abbrev s_line_on_way : Stmt := top 15
theorem sc_line_on_way : FnScope ["k", "hand", "goal", "level", "left"] ["k", "hand", "goal", "level"] (defScope s_line_on_way) := ⟨rfl, rfl, rfl, by decide +kernel, rfl, by decide +kernel, by decide +kernel⟩
abbrev s_way : Stmt := top 16
theorem sc_way : FnScope ["k", "hand", "side", "level"] ["k", "hand", "side"] (defScope s_way) := ⟨rfl, rfl, rfl, by decide +kernel, rfl, by decide +kernel, by decide +kernel⟩
abbrev s_meeting : Stmt := top 17
theorem sc_meeting : FnScope ["k", "one", "other", "apart"] ["k", "one", "other"] (defScope s_meeting) := ⟨rfl, rfl, rfl, by decide +kernel, rfl, by decide +kernel, by decide +kernel⟩
abbrev s_parting : Stmt := top 18
theorem sc_parting : FnScope ["k", "one", "other"] ["k", "one", "other"] (defScope s_parting) := ⟨rfl, rfl, rfl, by decide +kernel, rfl, by decide +kernel, by decide +kernel⟩
abbrev s__law_rich : Stmt := top 20
theorem sc__law_rich : FnScope ["_law_cell", "_law_turn", "_law_found", "_law_k", "_law_prime", "_law_seed"] ["_law_cell", "_law_turn"] (defScope s__law_rich) := ⟨rfl, rfl, rfl, by decide +kernel, rfl, by decide +kernel, by decide +kernel⟩
abbrev s__law_purse : Stmt := top 21
theorem sc__law_purse : FnScope ["_law_script", "_law_k", "_law_cell"] ["_law_script", "_law_k"] (defScope s__law_purse) := ⟨rfl, rfl, rfl, by decide +kernel, rfl, by decide +kernel, by decide +kernel⟩
abbrev s__law_take : Stmt := top 22
theorem sc__law_take : FnScope ["_law_purse_here", "_law_many", "_law_digit"] ["_law_purse_here", "_law_many"] (defScope s__law_take) := ⟨rfl, rfl, rfl, by decide +kernel, rfl, by decide +kernel, by decide +kernel⟩
abbrev s__law_is_stage : Stmt := top 23
theorem sc__law_is_stage : FnScope ["_law_k", "_law_thing"] ["_law_k", "_law_thing"] (defScope s__law_is_stage) := ⟨rfl, rfl, rfl, by decide +kernel, rfl, by decide +kernel, by decide +kernel⟩
abbrev s__law_refused : Stmt := top 24
theorem sc__law_refused : FnScope ["_law_deed", "_law_k", "_law_one", "e", "_law_others"] ["_law_deed", "_law_k", "_law_one"] (defScope s__law_refused) := ⟨rfl, rfl, rfl, by decide +kernel, rfl, by decide +kernel, by decide +kernel⟩
abbrev s__law_are_told : Stmt := top 25
theorem sc__law_are_told : FnScope ["_law_k", "_law_told", "_law_one", "_law_other", "_law_is_meeting", "_law_ahead", "_law_here", "_law_there"] ["_law_k", "_law_told", "_law_one", "_law_other", "_law_is_meeting"] (defScope s__law_are_told) := ⟨rfl, rfl, rfl, by decide +kernel, rfl, by decide +kernel, by decide +kernel⟩
abbrev s__law_meet : Stmt := top 26
theorem sc__law_meet : FnScope ["_law_k", "_law_ways", "_law_one", "_law_other", "_law_told", "_law_goal"] ["_law_k", "_law_ways"] (defScope s__law_meet) := ⟨rfl, rfl, rfl, by decide +kernel, rfl, by decide +kernel, by decide +kernel⟩
abbrev s__law_part : Stmt := top 27
theorem sc__law_part : FnScope ["_law_k", "_law_ways", "_law_one", "_law_other", "_law_told", "_law_hand"] ["_law_k", "_law_ways"] (defScope s__law_part) := ⟨rfl, rfl, rfl, by decide +kernel, rfl, by decide +kernel, by decide +kernel⟩
abbrev s_law : Stmt := top 28
theorem sc_law : FnScope ["_law_script", "_law_cell", "_law_k", "_law_ways", "_law_hand", "_law_goal", "_law_one"] ["_law_script"] (defScope s_law) := ⟨rfl, rfl, rfl, by decide +kernel, rfl, by decide +kernel, by decide +kernel⟩
structure Bl (K : PySem.W.Frag) (mg : Str → Option Value) : Prop where
  ValueError_ : mg "ValueError" = none
  abs_ : mg "abs" = none
  bool_ : mg "bool" = none
  e_ : mg "e" = none
  enumerate_ : mg "enumerate" = none
  int_ : mg "int" = none
  isinstance_ : mg "isinstance" = none
  len_ : mg "len" = none
  max_ : mg "max" = none
  min_ : mg "min" = none
  range_ : mg "range" = none
  tuple_ : mg "tuple" = none
  zip_ : mg "zip" = none
  AskError_ : ExcF K mg "AskError"
  NoHand_ : ExcF K mg "NoHand"
  NoNet_ : ExcF K mg "NoNet"
  NoNumber_ : ExcF K mg "NoNumber"
  NoSettings_ : ExcF K mg "NoSettings"
  NoSide_ : ExcF K mg "NoSide"
  NoHand_AskError_ : SubF K mg "NoHand" "AskError" true
  NoHand_NoHand_ : SubF K mg "NoHand" "NoHand" true
  NoHand_NoNet_ : SubF K mg "NoHand" "NoNet" false
  NoHand_NoNumber_ : SubF K mg "NoHand" "NoNumber" false
  NoHand_NoSettings_ : SubF K mg "NoHand" "NoSettings" false
  NoHand_NoSide_ : SubF K mg "NoHand" "NoSide" false
  NoSide_AskError_ : SubF K mg "NoSide" "AskError" true
  NoSide_NoHand_ : SubF K mg "NoSide" "NoHand" false
  NoSide_NoNet_ : SubF K mg "NoSide" "NoNet" false
  NoSide_NoNumber_ : SubF K mg "NoSide" "NoNumber" false
  NoSide_NoSettings_ : SubF K mg "NoSide" "NoSettings" false
  NoSide_NoSide_ : SubF K mg "NoSide" "NoSide" true
  NoHand_i : ExcI K mg "NoHand"
  NoSide_i : ExcI K mg "NoSide"

end Toy
/-! ### enumerate of a tuple -/
namespace PySem
open Sem (wp)
open AutoSeq1 (wpAny_loadPart')
theorem meets_enumerate_newTu (l : Addr) (items : Array Value) (n : Nat) (dct : Option Addr) (sl : Array (Option Value)) :
    Meets (Builtin.«enumerate.__new__» ⟨[.type "enumerate", .ref l], []⟩) (fun _ R s => s.heap.get? l = some { cls := .type "tuple", dict := dct, data := .seq items n, slots := sl } ∧
      R (.ok (.ret (.ref (s.heap.push { cls := .type "tuple_iterator", data := .fields #[.ref l, .int 0 0] }).objs.size)))
        { s with heap := (s.heap.push { cls := .type "tuple_iterator", data := .fields #[.ref l, .int 0 0] }).push { cls := .type "enumerate", data := .fields #[.none, .bool false, .ref s.heap.objs.size, rawInt 0, .none, .none] } }) :=
  .of_wp fun prog w A R s h => by
    obtain ⟨hp, g, d, tk, os⟩ := s; obtain ⟨hl, h⟩ := h
    have hsub := sub_enumerate
    have hL : Heap.IsTuple (Shared.heap ⟨hp, g, d, tk, os⟩) l items := ⟨_, hl, rfl, n, rfl⟩
    wp_walk using wpAny_loadPart' hl
    refine wpAny_stack_any fun st => wpAny_pure ?_
    split
    · rename_i c _ _ _ _ _
      cases (c == Value.type "enumerate")
      · wp_walk using wpAny_loadPart' hl, wpAny_pyIter_tuple hL
        exact ⟨_, rfl, h⟩
      · wp_walk using wpAny_loadPart' hl, wpAny_pyIter_tuple hL
        exact ⟨_, rfl, h⟩
    · wp_walk using wpAny_loadPart' hl, wpAny_pyIter_tuple hL
      exact ⟨_, rfl, h⟩
theorem call_enumerate_tup {prog : Program} {w : World} {A : Around} {E : Value → Shared → Prop} {s : Shared} {l : Addr} {items : Array Value} {Q : Value → Shared → Prop} (hL : s.heap.IsTuple l items)
    (h : ∀ h', IsEnum h' (s.heap.objs.size + 1) s.heap.objs.size 0 .none → h'.IsTupleIter s.heap.objs.size l 0 → h'.objs.size = s.heap.objs.size + 2 →
      (∀ b o, s.heap.get? b = some o → h'.get? b = some o) → Q (.ref (s.heap.objs.size + 1)) { s with heap := h' }) :
    wpAny (model prog w) A (call (.type "enumerate") [.ref l]) Q E s := by
  obtain ⟨⟨c, dct, dt, sl⟩, hl, hc, n, hd⟩ := hL
  replace hc : c = .type "tuple" := hc
  replace hd : dt = .seq items n := hd
  subst hc hd
  refine callType_new F.called_enumerate (by decide) (F.typeCall_enumerate_1 _) (F.newCall_enumerate_1 _) (fun obj => F.args_object_init_2 obj _) F.entry_enumerate_new
    (meets_enumerate_newTu l items n dct sl) ⟨hl, ?_⟩
  have hz : (s.heap.push { cls := .type "tuple_iterator", data := .fields #[.ref l, .int 0 0] }).objs.size = s.heap.objs.size + 1 := Heap.size_push ..
  show _ ∧ _
  rw [hz]
  have he : IsEnum ((s.heap.push { cls := .type "tuple_iterator", data := .fields #[.ref l, .int 0 0] }).push
      { cls := .type "enumerate", data := .fields #[.none, .bool false, .ref s.heap.objs.size, rawInt 0, .none, .none] }) (s.heap.objs.size + 1) s.heap.objs.size 0 .none := by
    have := Heap.get?_push_size (s.heap.push { cls := .type "tuple_iterator", data := .fields #[.ref l, .int 0 0] })
      (o := { cls := .type "enumerate", data := .fields #[.none, .bool false, .ref s.heap.objs.size, rawInt 0, .none, .none] }) rfl
    rw [hz] at this; exact this
  refine ⟨⟨_, he, rfl⟩, h _ he ⟨_, Heap.get?_push_of_some _ (Heap.get?_push_size _ rfl), rfl, rfl⟩ (by rw [Heap.size_push, hz]) fun b o x => Heap.get?_push_of_some _ (Heap.get?_push_of_some _ x)⟩
end PySem
namespace Toy
open PySem PySem.Spec PyProof.Rows L2
theorem tup_is {h : Heap} {a : Addr} {its : Array Value} (p : IsTup h a its) : h.IsTuple a its := p
/-- the tuple at a as it stands at each turn, each item in a new pair -/
def IteT (K : PySem.W.Frag) (a : Addr) : It :=
  ⟨fun i H => ∃ (xs : List V) (x : V), SqT K H a xs ∧ xs[i]? = some x, fun i H v H' => ∃ T x, v = .ref T ∧ H T = none ∧ H' = upd H T (.tup [.int (i : Nat), x]) ∧ ∀ xs, SqT K H a xs → xs[i]? = some x, fun i H => ∃ xs : List V, SqT K H a xs ∧ xs.length = i⟩
theorem turn_enumTu {P : Program} {w : World} {K : PySem.W.Frag} {elts : List Expr} {kk : Nat} {tpos : Pos} (a e it : Addr) (hai : a ≠ it) :
    Turn P w K (.Tuple elts kk tpos) (IteT K a) [e, it] e (fun i h => (∃ old, IsEnum h e it ((i : Nat) : Int) old) ∧ h.IsTupleIter it a i ∧ e ≠ it ∧ e ≠ a) where
  mem := by simp
  obj := fun i h st b hb => by
    obtain ⟨⟨old, he⟩, ⟨o, ho, hc, hd⟩, _⟩ := st
    have e' : b = e ∨ b = it := by simpa using hb
    rcases e' with z | z
    · rw [z]; exact ⟨_, he, fun v q => nomatch q⟩
    · rw [z]; exact ⟨o, ho, fun v q => by rw [hd] at q; cases q⟩
  keep := fun i h h' st k => let ⟨⟨old, he⟩, hi, hne⟩ := st; ⟨⟨old, k e (by simp) _ he⟩, hi.at fun o q => k it (by simp) o q, hne⟩
  item := by
    intro X hP hw hK hc i pins s σ H E I hf st hg
    subst hP hw hK
    obtain ⟨⟨old, he⟩, hit, hne, hea⟩ := st
    obtain ⟨xs, x, hq, hx⟩ := hg
    obtain ⟨its, rv, p, hz⟩ := I.tuple hq
    obtain ⟨u, hu, ru⟩ := rv.get hx
    have hel : e < s.heap.objs.size := Heap.lt_size he
    have hil : it < s.heap.objs.size := by obtain ⟨_, q, _⟩ := hit; exact Heap.lt_size q
    refine wpAny_pyNext_enum_itemD (Draws.tuple (show X.A.in1.handled = none from I.ok.hd hc) it a hai its.toArray) he ⟨hit, tup_is p⟩ (by have h1 := rv.length; have h2 := (List.getElem?_eq_some_iff.mp hx).1; rw [List.size_toArray]; omega) hne (by simp [hne, hea]) fun x' h' tk hP ho hst' hT hsz hk => ?_
    obtain ⟨hit', ht'⟩ := hst'
    have ex : x' = u := by
      have h1 : its[i]? = some x' := by simpa using hP
      rw [hu] at h1
      exact (Option.some.inj h1).symm
    subst ex
    refine ⟨_, rfl, wpAny_letOwnedTupleGo_enum (s := { s with heap := h', toks := tk + 1 }) ho fun h'' he' sb => ?_⟩
    have hT2 : h''.get? s.heap.objs.size = some { cls := .type "tuple", data := .seq #[.int i tk, x'] } := (sb.2 _ (Nat.ne_of_gt hel)).trans hT
    have new : ObjOk X.prog X.w (upd H s.heap.objs.size (.tup [.int (i : Nat), x])) h'' s.heap.objs.size (.tup [.int (i : Nat), x]) :=
      ⟨by show 2 ≤ sizeLine; decide, [.int i tk, x'], .cons ⟨_, rfl⟩ (.cons ru .nil), ⟨_, hT2, rfl, _, rfl⟩⟩
    have I1 : Inv X pins σ (upd H s.heap.objs.size (.tup [.int (i : Nat), x])) { s with heap := h'', toks := tk + 1 } :=
      I.turnedNew (ch := [e, it]) (fun b ob hb q => (sb.2 b (fun z => hb (by simp [z]))).trans (hk b ob (fun z => hb (by simp [z])) (fun z => hb (by simp [z])) q)) hf (Nat.le_refl _) new
    refine ⟨.ref s.heap.objs.size, _, I1, rfl, ⟨_, x, rfl, I.hok.fresh (Nat.le_refl _), rfl, fun ys hy => by rw [I.tuple_inj hy hq]; exact hx⟩, ⟨⟨x', ?_⟩, hit'.at fun o q => (sb.2 it (Ne.symm hne)).trans q, hne, hea⟩, fun b hb => ?_⟩
    · have e1 : ((i + 1 : Nat) : Int) = (i : Int) + 1 := by omega
      rw [e1]; exact he'
    · have hb' : b < s.heap.objs.size := by
        have e' : b = e ∨ b = it := by simpa using hb
        rcases e' with z | z
        · rw [z]; exact hel
        · rw [z]; exact hil
      rw [upd_ne (Nat.ne_of_lt hb')]
      exact (hf b hb).1
  done := by
    intro X hP hw hK hc i pins s σ H E I hf st hg
    subst hP hw hK
    obtain ⟨⟨old, he⟩, hit, hne, hea⟩ := st
    obtain ⟨xs, hq, hx⟩ := hg
    obtain ⟨its, rv, p, hz⟩ := I.tuple hq
    obtain ⟨f0, f1, f2, f3, f4, f5⟩ := hf it (by simp)
    have hl := rv.length
    have e2 : i = its.toArray.size := by rw [List.size_toArray]; omega
    rw [e2] at hit he
    exact wpAny_pyNext_enum_endD (Draws.tuple (show X.A.in1.handled = none from I.ok.hd hc) it a hai its.toArray) he ⟨hit, tup_is p⟩ fun h' eb => ⟨rfl, I.turned (t' := s.toks) (fun b o hb q => eb b o hb q) f0 f1 f3 f4 f5⟩
  self := fun A i s Q E st h => let ⟨⟨_, he⟩, _⟩ := st; wpAny_pyIter_enum he h
def iEnumT (K : PySem.W.Frag) (ta : TA) : TI := fun σ H R => ta σ H fun vs H1 => ∃ a xs, vs = [.ref a] ∧ SqT K H1 a xs ∧ R (IteT K a) H1
theorem pi_enumT {X : Cx} {e : Expr} {ta : TA} {p pos tpos : Pos} {elts : List Expr} {kk : Nat} (hg : Gl X "enumerate") (hm : X.mg "enumerate" = none) (ha : PA X [e] ta) (hs : starEach [e] X.env = [(false, eval e X.env)] := by rfl) :
    PI X (.Tuple elts kk tpos) (.Call (.Name "enumerate" p) [e] [] pos) (iEnumT X.K ta) := by
  refine ⟨fun pins s σ H R I h => ?_⟩
  refine Call_ (ld_blt I hg hm boot_enumerate (PyProof.Rows.callWith_type1 (thn (ha.run pos pins s σ H _ I h) fun us s1 ⟨vs, H1, I1, r1, q1⟩ => ?_) hs rfl))
  obtain ⟨a, xs, ex, hq, q⟩ := q1
  subst ex
  cases r1 with
  | cons r rr =>
    cases rr
    cases r
    obtain ⟨its, rv, p', hz⟩ := I1.tuple hq
    have hal : a < s1.heap.objs.size := by obtain ⟨o, ho, _⟩ := p'; exact Heap.lt_size ho
    refine call_enumerate_tup (tup_is p') fun h' he hit hsz hk => wpAny_pyIter_enum he ?_
    have I2 : Inv X pins σ H1 { s1 with heap := h' } := I1.kept (t' := s1.toks) hk
    refine ⟨s1.heap.objs.size + 1, [s1.heap.objs.size + 1, s1.heap.objs.size], _, _, H1, rfl, I2, turn_enumTu a (s1.heap.objs.size + 1) s1.heap.objs.size (Nat.ne_of_lt hal), ⟨⟨.none, he⟩, hit, Nat.succ_ne_self _, Nat.ne_of_gt (Nat.lt_succ_of_lt hal)⟩, fun b hb => ?_, q⟩
    have e' : b = s1.heap.objs.size + 1 ∨ b = s1.heap.objs.size := by simpa using hb
    have hle : s1.heap.objs.size ≤ b := by
      rcases e' with z | z
      · rw [z]; exact Nat.le_add_right _ _
      · rw [z]; exact Nat.le_refl _
    exact I1.fpOk hle (I1.hok.fresh hle)
theorem for_enumT {K : PySem.W.Frag} {a : Addr} {xs : List V} {g : TG} {tb : TS} {D : Ends} {σ : L2.St} {H : Hp} (Pv : Nat → L2.St → Hp → Prop) (h0 : Pv 0 σ H) (hl : ∀ i σ H, i ≤ xs.length → Pv i σ H → SqT K H a xs)
    (hs : ∀ (i : Nat) x (T : Addr) σ H, xs[i]? = some x → Pv i σ H → H T = none → g (.ref T) σ (upd H T (.tup [.int i, x])) fun σ2 H2 => tb { D with nx := Pv (i + 1), ct := Pv (i + 1), bk := D.nx } σ2 H2) (hd : ∀ σ H, Pv xs.length σ H → D.nx σ H) :
    ∃ W : Nat → Nat → L2.St → Hp → Prop, (∃ m, W 0 m σ H) ∧ ∀ i m σ H, W i m σ H →
      ((IteT K a).stop i H ∧ D.nx σ H) ∨ ((IteT K a).go i H ∧ ∃ N : L2.St → Hp → Prop, (∀ σ' H', N σ' H' → ∃ m', m' < m ∧ W (i + 1) m' σ' H') ∧ ∀ x H', (IteT K a).yld i H x H' → g x σ H' fun σ2 H2 => tb { D with nx := N, ct := N, bk := D.nx } σ2 H2) := by
  refine ⟨fun i m σ H => m = xs.length - i ∧ i ≤ xs.length ∧ Pv i σ H, ⟨xs.length, by simp, Nat.zero_le _, h0⟩, ?_⟩
  rintro i m σ H ⟨rfl, hi, p⟩
  have q := hl i σ H hi p
  by_cases hlt : i < xs.length
  · refine .inr ⟨⟨xs, xs[i], q, List.getElem?_eq_getElem hlt⟩, Pv (i + 1), fun σ' H' p' => ⟨xs.length - (i + 1), by omega, rfl, hlt, p'⟩, fun x H' y => ?_⟩
    obtain ⟨T, z, rfl, hT, rfl, hz⟩ := y
    exact hs i z T σ H (hz xs q) p hT
  · have e : i = xs.length := by omega
    subst e
    exact .inl ⟨⟨xs, q, rfl⟩, hd σ H p⟩
/-! ### loops over any iterable: the forms one uses -/
theorem lc_it {I : It} {n : Nat} {g : TG} {tt : TT} {te : TE} {vs : List Nat} {σ : L2.St} {H1 : Hp} {D : Addr} {Qd : Hp → Prop} (Pv : Nat → Hp → Prop) (h0 : Pv 0 (upd H1 D (.lst [])))
    (hgo : ∀ i H, i < n → Pv i H → I.go i H) (hst : ∀ H, Pv n H → I.stop n H)
    (hs : ∀ i x H H', i < n → Pv i H → I.yld i H x H' → g x (wipe σ vs) H' fun σ2 H2 => wipe σ2 vs = wipe σ vs ∧ tt σ2 H2 fun b H3 =>
      if b = true then te σ2 H3 fun y H4 => ∃ acc, H4 D = some (.lst acc) ∧ acc.length < sizeLine ∧ Pv (i + 1) (upd H4 D (.lst (acc ++ [y]))) else Pv (i + 1) H3) (hd : ∀ H, Pv n H → Qd H) :
    ∃ W : Nat → Nat → Hp → Prop, (∃ m, W 0 m (upd H1 D (.lst []))) ∧ ∀ i m H, W i m H →
      (I.stop i H ∧ Qd H) ∨ (I.go i H ∧ ∃ Nx : Hp → Prop, (∀ H', Nx H' → ∃ m', m' < m ∧ W (i + 1) m' H') ∧ ∀ x H', I.yld i H x H' → g x (wipe σ vs) H' fun σ2 H2 => wipe σ2 vs = wipe σ vs ∧ tt σ2 H2 fun b H3 =>
        if b = true then te σ2 H3 fun y H4 => ∃ acc, H4 D = some (.lst acc) ∧ acc.length < sizeLine ∧ Nx (upd H4 D (.lst (acc ++ [y]))) else Nx H3) := by
  refine ⟨fun i m H => m = n - i ∧ i ≤ n ∧ Pv i H, ⟨n, by simp, Nat.zero_le _, h0⟩, ?_⟩
  rintro i m H ⟨rfl, hi, p⟩
  by_cases hlt : i < n
  · exact .inr ⟨hgo i H hlt p, Pv (i + 1), fun H' p' => ⟨n - (i + 1), by omega, rfl, hlt, p'⟩, fun x H' y => hs i x H H' hlt p y⟩
  · have e : i = n := by omega
    subst e
    exact .inl ⟨hst H p, hd H p⟩
theorem for_it {I : It} {n : Nat} {g : TG} {tb : TS} {D : Ends} {σ : L2.St} {H : Hp} (Pv : Nat → L2.St → Hp → Prop) (h0 : Pv 0 σ H)
    (hgo : ∀ i σ H, i < n → Pv i σ H → I.go i H) (hst : ∀ σ H, Pv n σ H → I.stop n H)
    (hs : ∀ i x σ H H', i < n → Pv i σ H → I.yld i H x H' → g x σ H' fun σ2 H2 => tb { D with nx := Pv (i + 1), ct := Pv (i + 1), bk := D.nx } σ2 H2) (hd : ∀ σ H, Pv n σ H → D.nx σ H) :
    ∃ W : Nat → Nat → L2.St → Hp → Prop, (∃ m, W 0 m σ H) ∧ ∀ i m σ H, W i m σ H →
      (I.stop i H ∧ D.nx σ H) ∨ (I.go i H ∧ ∃ N : L2.St → Hp → Prop, (∀ σ' H', N σ' H' → ∃ m', m' < m ∧ W (i + 1) m' σ' H') ∧ ∀ x H', I.yld i H x H' → g x σ H' fun σ2 H2 => tb { D with nx := N, ct := N, bk := D.nx } σ2 H2) := by
  refine ⟨fun i m σ H => m = n - i ∧ i ≤ n ∧ Pv i σ H, ⟨n, by simp, Nat.zero_le _, h0⟩, ?_⟩
  rintro i m σ H ⟨rfl, hi, p⟩
  by_cases hlt : i < n
  · exact .inr ⟨hgo i σ H hlt p, Pv (i + 1), fun σ' H' p' => ⟨n - (i + 1), by omega, rfl, hlt, p'⟩, fun x H' y => hs i x σ H H' hlt p y⟩
  · have e : i = n := by omega
    subst e
    exact .inl ⟨hst σ H p, hd σ H p⟩
/-- [.. for i, x in enumerate(xs)] -/
theorem lc_enum {K : PySem.W.Frag} {a : Addr} {xs : List V} {g : TG} {tt : TT} {te : TE} {vs : List Nat} {σ : L2.St} {H1 : Hp} {D : Addr} {Qd : Hp → Prop} (Pv : Nat → Hp → Prop) (h0 : Pv 0 (upd H1 D (.lst []))) (hl : ∀ i H, i ≤ xs.length → Pv i H → SqL K H a xs)
    (hs : ∀ (i : Nat) x (T : Addr) H, xs[i]? = some x → Pv i H → H T = none → g (.ref T) (wipe σ vs) (upd H T (.tup [.int i, x])) fun σ2 H2 => wipe σ2 vs = wipe σ vs ∧ tt σ2 H2 fun b H3 =>
      if b = true then te σ2 H3 fun y H4 => ∃ acc, H4 D = some (.lst acc) ∧ acc.length < sizeLine ∧ Pv (i + 1) (upd H4 D (.lst (acc ++ [y]))) else Pv (i + 1) H3) (hd : ∀ H, Pv xs.length H → Qd H) :
    ∃ W : Nat → Nat → Hp → Prop, (∃ m, W 0 m (upd H1 D (.lst []))) ∧ ∀ i m H, W i m H →
      ((Ite K a).stop i H ∧ Qd H) ∨ ((Ite K a).go i H ∧ ∃ Nx : Hp → Prop, (∀ H', Nx H' → ∃ m', m' < m ∧ W (i + 1) m' H') ∧ ∀ x H', (Ite K a).yld i H x H' → g x (wipe σ vs) H' fun σ2 H2 => wipe σ2 vs = wipe σ vs ∧ tt σ2 H2 fun b H3 =>
        if b = true then te σ2 H3 fun y H4 => ∃ acc, H4 D = some (.lst acc) ∧ acc.length < sizeLine ∧ Nx (upd H4 D (.lst (acc ++ [y]))) else Nx H3) := by
  refine lc_it (I := Ite K a) (n := xs.length) Pv h0 (fun i H hi p => ⟨xs, xs[i], hl i H (Nat.le_of_lt hi) p, List.getElem?_eq_getElem hi⟩) (fun H p => ⟨xs, hl _ H (Nat.le_refl _) p, Nat.le_refl _⟩) ?_ hd
  rintro i x H H' hi p ⟨T, z, rfl, hT, rfl, hz⟩
  exact hs i z T H (hz xs (hl i H (Nat.le_of_lt hi) p)) p hT
theorem for_enum' {K : PySem.W.Frag} {a : Addr} {xs : List V} {g : TG} {tb : TS} {D : Ends} {σ : L2.St} {H : Hp} (Pv : Nat → L2.St → Hp → Prop) (h0 : Pv 0 σ H) (hl : ∀ i σ H, i ≤ xs.length → Pv i σ H → SqL K H a xs)
    (hs : ∀ (i : Nat) x (T : Addr) σ H, xs[i]? = some x → Pv i σ H → H T = none → g (.ref T) σ (upd H T (.tup [.int i, x])) fun σ2 H2 => tb { D with nx := Pv (i + 1), ct := Pv (i + 1), bk := D.nx } σ2 H2) (hd : ∀ σ H, Pv xs.length σ H → D.nx σ H) :
    ∃ W : Nat → Nat → L2.St → Hp → Prop, (∃ m, W 0 m σ H) ∧ ∀ i m σ H, W i m σ H →
      ((Ite K a).stop i H ∧ D.nx σ H) ∨ ((Ite K a).go i H ∧ ∃ N : L2.St → Hp → Prop, (∀ σ' H', N σ' H' → ∃ m', m' < m ∧ W (i + 1) m' σ' H') ∧ ∀ x H', (Ite K a).yld i H x H' → g x σ H' fun σ2 H2 => tb { D with nx := N, ct := N, bk := D.nx } σ2 H2) := by
  refine for_it (I := Ite K a) (n := xs.length) Pv h0 (fun i σ H hi p => ⟨xs, xs[i], hl i σ H (Nat.le_of_lt hi) p, List.getElem?_eq_getElem hi⟩) (fun σ H p => ⟨xs, hl _ σ H (Nat.le_refl _) p, Nat.le_refl _⟩) ?_ hd
  rintro i x σ H H' hi p ⟨T, z, rfl, hT, rfl, hz⟩
  exact hs i z T σ H (hz xs (hl i σ H (Nat.le_of_lt hi) p)) p hT
/-- xs[i] of a list, as a value -/
theorem get_listI {X : Cx} : PGet X (rIxL X.K) := by
  intro pins s σ H o i ov iv Q I ro ri h
  obtain ⟨p, xs, k, z, rfl, rfl, hq, he, q⟩ := h
  cases ro
  obtain ⟨t, rfl⟩ := ri
  obtain ⟨its, r, pl, hz⟩ := I.list hq
  obtain ⟨j, h1, h2, h3, h4, h5⟩ := atI_get he
  obtain ⟨w, ew, rw'⟩ := r.get h2
  have hl := r.length
  have hn := line63
  have fin : EP X pins σ Q w s := ⟨z, H, I, rw', q⟩
  by_cases h0 : 0 ≤ k
  · have hj : k.toNat = j := by
      rw [seqIndex_of h0 h5] at h1
      exact Option.some.inj h1
    exact wpAny_getItem_list pl.isList h0 (by omega) (by rw [hj]; simpa using ew) fin
  · have hj : (k + (its.toArray.size : Int)).toNat = j := by
      rw [seqIndex_neg (by omega) h4] at h1
      rw [List.size_toArray, ← hl]
      exact Option.some.inj h1
    exact wpAny_getItem_list_neg pl.isList (by omega) (by rw [List.size_toArray] <;> omega) (by omega) (by rw [hj]; simpa using ew) fin
/-- [.. for x, y in zip(xs, ys)], two tuples -/
theorem lc_zipT {K : PySem.W.Frag} {a b : Addr} {xs ys : List V} {g : TG} {tt : TT} {te : TE} {vs : List Nat} {σ : L2.St} {H1 : Hp} {D : Addr} {Qd : Hp → Prop} (hl : xs.length = ys.length) (Pv : Nat → Hp → Prop) (h0 : Pv 0 (upd H1 D (.lst []))) (hq : ∀ i H, i ≤ xs.length → Pv i H → SqT K H a xs ∧ SqT K H b ys)
    (hs : ∀ (i : Nat) x y (T : Addr) H, xs[i]? = some x → ys[i]? = some y → Pv i H → H T = none → g (.ref T) (wipe σ vs) (upd H T (.tup [x, y])) fun σ2 H2 => wipe σ2 vs = wipe σ vs ∧ tt σ2 H2 fun b H3 =>
      if b = true then te σ2 H3 fun y H4 => ∃ acc, H4 D = some (.lst acc) ∧ acc.length < sizeLine ∧ Pv (i + 1) (upd H4 D (.lst (acc ++ [y]))) else Pv (i + 1) H3) (hd : ∀ H, Pv xs.length H → Qd H) :
    ∃ W : Nat → Nat → Hp → Prop, (∃ m, W 0 m (upd H1 D (.lst []))) ∧ ∀ i m H, W i m H →
      ((RZ.ItzT K a b).stop i H ∧ Qd H) ∨ ((RZ.ItzT K a b).go i H ∧ ∃ Nx : Hp → Prop, (∀ H', Nx H' → ∃ m', m' < m ∧ W (i + 1) m' H') ∧ ∀ x H', (RZ.ItzT K a b).yld i H x H' → g x (wipe σ vs) H' fun σ2 H2 => wipe σ2 vs = wipe σ vs ∧ tt σ2 H2 fun b H3 =>
        if b = true then te σ2 H3 fun y H4 => ∃ acc, H4 D = some (.lst acc) ∧ acc.length < sizeLine ∧ Nx (upd H4 D (.lst (acc ++ [y]))) else Nx H3) := by
  refine lc_it (I := RZ.ItzT K a b) (n := xs.length) Pv h0 (fun i H hi p => ?_) (fun H p => ?_) ?_ hd
  · obtain ⟨qx, qy⟩ := hq i H (Nat.le_of_lt hi) p
    exact ⟨xs, ys, _, _, qx, qy, List.getElem?_eq_getElem hi, List.getElem?_eq_getElem (by omega)⟩
  · obtain ⟨qx, qy⟩ := hq _ H (Nat.le_refl _) p
    exact ⟨xs, ys, qx, qy, .inl (Nat.le_refl _)⟩
  rintro i x H H' hi p ⟨T, z, w, rfl, hT, rfl, f1, f2⟩
  obtain ⟨qx, qy⟩ := hq i H (Nat.le_of_lt hi) p
  exact hs i z w T H (f1 xs qx) (f2 ys qy) p hT
end Toy
/-! ### dicts by tuples: {t: v}, tuple(d), dict(rows) -/
namespace Toy
open PySem PySem.Spec PyProof.Rows L2
open Sem (wp)
theorem RoomG.u1 {k : Nat} {A : Around} (r : RoomG k A) : A.units + 1 < cLine := by have := r.units; omega
theorem RoomG.u2 {k : Nat} {A : Around} (r : RoomG k A) : A.units + 2 < cLine := by have := r.units; omega
/-- a dict of one row, its key a tuple -/
def tDispT (tk tv : TE) : TE := fun σ H Q => ∀ p, H p = none → tk σ (upd H p (.dT [])) fun x H1 => tv σ H1 fun y H2 => ∃ (b : Addr) (k : List Key), x = .ref b ∧ H2 p = some (.dT []) ∧ H2 b = some (.tup (k.map kV)) ∧ Q (.ref p) (upd H2 p (.dT [(k, y)]))
def dispQ (p : Addr) (Q : VK) : List (V × V) → Hp → Prop
  | [(x, y)], H2 => ∃ (b : Addr) (k : List Key), x = .ref b ∧ H2 p = some (.dT []) ∧ H2 b = some (.tup (k.map kV)) ∧ Q (.ref p) (upd H2 p (.dT [(k, y)]))
  | _, _ => False
theorem pe_dispT {X : Cx} {pos : Pos} {k v : Expr} {tk tv : TE} (hu : X.A.units + 1 < cLine) (hk : PE X k tk) (hv : PE X v tv) : PE X (.Dict [some k] [v] pos) (tDispT tk tv) := by
  refine ⟨fun pins s σ H Q I q => ?_⟩
  have hn := I.hok.fresh (Nat.le_refl s.heap.objs.size)
  have I1 := I.laid (a := s.heap.objs.size) (o := .dT []) (h' := s.heap.push { cls := .type "dict", data := .dict #[] }) (t' := s.toks) (fun _ _ q => Heap.get?_push_of_some _ q) (Nat.le_refl _) (dt_empty s.heap I.big)
  have R := (pps_cons (pos := pos) hk hv pps_nil).run pins _ σ _ (dispQ s.heap.objs.size Q) I1 (q _ hn)
  have hsh := zip_pairTrees [some k] [v] X.env pos rfl rfl
  have hlen : (pairTrees [some k] [v] X.env pos).length ≤ 15 := by rw [pairTrees_length _ _ _ _ rfl rfl]; show 1 ≤ 15; decide
  have h0 : pairTrees [some k] [v] X.env pos ≠ [] := fun e => by
    have := pairTrees_length [some k] [v] X.env pos rfl rfl
    rw [e] at this
    cases this
  rw [arm_eval_Dict, hsh, dictDisplay_pairs _ h0 (by omega)]
  refine wpAny_bind (wpAny_standAt (wpAny_bind (wpAny_subDictH (knd := tupleKind (mixKind X.prog X.w)) (Q := fun d s' => wpAny (model X.prog X.w) X.A (pure (Value.ref d)) (EP X pins σ Q) X.xe s') (show (tupleKind (mixKind X.prog X.w)).room X.A from (by show X.A.units < cLine; omega)) hlen
    (wpAny_mono R (fun vs s1 h1 => ?_) fun _ _ e => e))))
  obtain ⟨ps, H2, I2, rel, qq⟩ := h1
  match ps, rel, qq with
  | [(x, y)], rel, qq =>
    obtain ⟨b, ky, rfl, e, eb, q2⟩ := qq
    cases rel with
    | @cons p1 p2 _ _ hr tl =>
      cases tl
      obtain ⟨u, w⟩ := p2
      obtain ⟨r1, r2⟩ := hr
      cases (show u = Value.ref b from r1)
      obtain ⟨z, hd, xs, r0, dd⟩ := dt_of I2.hok e
      cases r0
      refine ⟨[(ky, b, w)], ⟨rfl, rfl, key_of I2.hok eb, trivial⟩, dd, fun h' tk dd' hs => wpAny_pure ⟨.ref s.heap.objs.size, _, ?_, rfl, q2⟩⟩
      obtain ⟨o, es, ep, hq, h2, h3, h4, _, h5⟩ := dd'
      refine d_write I2 (by rw [e]; exact True.intro) hs ⟨o, hq⟩ ⟨by show 1 ≤ sizeLine; decide, hd, [(ky, b, w)], .cons ⟨rfl, ?_, r2⟩ .nil, o, es, ep, hq, h2, h3, h4, h5⟩
      rw [upd_ne (ne_of eb e (fun z => nomatch z))]
      exact eb
/-- the keys of a dict by tuples, as a tuple -/
theorem keysDT {X : Cx} {pins : List (Addr × Obj)} {σ : L2.St} {H : Hp} {s : Shared} {d : Addr} {kvs : List (List Key × V)} (I : Inv X pins σ H s) (hd : H d = some (.dT kvs)) : kvs.length ≤ sizeLine ∧ (d == sysModules) = false ∧
    ∃ (ks : List (List Key × Addr × Value)) (o : Obj) (es : Array DictEntry) (ep : Nat), KT H kvs ks ∧ s.heap.get? d = some o ∧ o.ExactDict ∧ o.data = .dict es ep ∧ es.toList = ks.map (entryOfKey (tupleKind (mixKind X.prog X.w))) := by
  obtain ⟨z, hs, ks, pr, o, es, ep, ho, hx, hdt, he, _⟩ := (show ObjOk X.prog X.w H s.heap d (.dT kvs) from I.hok d _ hd)
  exact ⟨z, hs, ks, o, es, ep, pr, ho, hx, hdt, he⟩
theorem accDT {X : Cx} {es : Array DictEntry} {ks : List (List Key × Addr × Value)} (he : es.toList = ks.map (entryOfKey (tupleKind (mixKind X.prog X.w)))) {acc : Array Value}
    (it : ItemsOf (fun i v => ∃ en : DictEntry, es[i]? = some en ∧ v = en.key) acc es.size) : acc.toList = (ks.map fun x => x.2.1).map Value.ref := by
  have l1 : es.size = ks.length := size_of_entries he
  have hl : acc.toList.length = ks.length := by rw [Array.length_toList, it.1]; exact l1
  refine List.ext_getElem? fun j => ?_
  rw [List.map_map, List.getElem?_map]
  cases hj : acc.toList[j]? with
  | none =>
    have h1 := List.getElem?_eq_none_iff.mp hj
    rw [List.getElem?_eq_none (by omega)] <;> rfl
  | some v =>
    obtain ⟨en, hen, hv⟩ := it.2 j v (by rw [← Array.getElem?_toList]; exact hj)
    have qe := entry_at he j
    rw [hen] at qe
    cases hb : ks[j]? with
    | none =>
      rw [hb] at qe
      exact nomatch (show some en = none from qe)
    | some b =>
      rw [hb] at qe
      rw [hv, Option.some.inj qe] <;> rfl
theorem code_tup_dT {X : Cx} {pins : List (Addr × Obj)} {σ : L2.St} {H : Hp} {s : Shared} (I : Inv X pins σ H s) {A : Around} {E : Value → Shared → Prop} (hh : A.handled = none) {d : Addr} {kvs : List (List Key × V)} (hd : H d = some (.dT kvs)) {Q₁ : Value → Shared → Prop}
    (q : ∀ s' T bs, Inv X pins σ (upd H T (.tup (bs.map V.ref))) s' → s'.TypeIs (.ref T) "tuple" → H T = none → IsKeys H kvs bs → Q₁ (.ref T) s') :
    codeAny (model X.prog X.w) A (.call (.builtin "tuple.__new__") ⟨[.type "tuple", .ref d], []⟩) (wants Q₁ E) s := by
  obtain ⟨z, hs, ks, o, es, ep, pr, ho, hx, hdt, he⟩ := keysDT I hd
  have l2 : kvs.length = ks.length := Paired.length pr
  have l1 : es.size = ks.length := size_of_entries he
  have hes : es.size ≤ sizeLine := by omega
  refine codeAny_of_tree ?_
  show wpAny _ A.in1 (do checkBuiltinCall "tuple.__new__" ⟨[.type "tuple", .ref d], []⟩; again (.builtin "tuple.__new__" ⟨[.type "tuple", .ref d], []⟩)) _ _ s
  refine wpAny_bind (wpAny_of_eq (F.newCall_tuple_1 _) (wpAny_pure ⟨plainId_quiet F.plain_tuple_new _, codeAny_builtin F.entry_tuple_new ?_⟩))
  rw [Around.under_plainId F.plain_tuple_new _]
  have hsub := sub_tuple_self
  have hinit := init_tuple_lookup
  have hmh := madeHere_tuple
  have hTI : s.TypeIs (.ref d) "dict" := ⟨o, ho, hx.1⟩
  have hh1 : A.in1.handled = none := hh
  wp_walk using wpAny_typeOf hTI, PySem.W.kdu_collect (A := A.in1) (kdl_raw hs hx hdt) hh1 ho hes
  intro h' tk acc kp it
  have ea := accDT he it
  have hsl : acc.toList.length ≤ sizeLine := by rw [ea, List.length_map, List.length_map]; omega
  show wpAny _ _ (Builtin.Tuple.tupleExact acc.toList.toArray >>= fun v => ret v) _ _ _
  unfold Builtin.Tuple.tupleExact
  refine wpAny_bind (wpAny_newObj_type ?_ (by show acc.toList.toArray.size ≤ sizeLine; simpa using hsl))
  refine wpAny_pure ?_
  have I' : Inv X pins σ H { s with heap := h', toks := tk } := I.kept (t' := tk) kp
  have hfr' : H h'.objs.size = none := I'.hok.fresh (Nat.le_refl _)
  have gT : (h'.push { cls := .type "tuple", data := .seq acc.toList.toArray }).get? h'.objs.size = some { cls := .type "tuple", data := .seq acc.toList.toArray } := Heap.get?_push_size _ rfl
  have rv : Vals ((ks.map fun x => x.2.1).map V.ref) acc.toList := by rw [ea]; exact vals_refs _
  have I2 : Inv X pins σ (upd H h'.objs.size (.tup ((ks.map fun x => x.2.1).map V.ref))) { s with heap := h'.push { cls := .type "tuple", data := .seq acc.toList.toArray }, toks := tk } :=
    I'.laid (t' := tk) (fun b u e => Heap.get?_push_of_some _ e) (Nat.le_refl _) ⟨by rw [rv.length]; exact hsl, acc.toList, rv, ⟨_, gT, rfl, _, rfl⟩⟩
  exact q _ _ _ I2 ⟨_, gT, rfl⟩ hfr' (isKeys_of pr)
def rTupDT : List V → Hp → VK → Prop := fun xs H Q => ∃ d kvs, xs = [V.ref d] ∧ H d = some (.dT kvs) ∧ ∀ T bs, H T = none → IsKeys H kvs bs → Q (.ref T) (upd H T (.tup (bs.map V.ref)))
theorem call_tup_dT {X : Cx} (hcalm : X.calm = true) : CallR X (.type "tuple") rTupDT := by
  intro pins s σ H xs us Q I r h
  obtain ⟨d, kvs, rfl, hd, q⟩ := h
  obtain ⟨u, rfl, rx⟩ := r.one
  cases rx
  have hh : X.A.in1.handled = none := show X.A.handled = none from I.ok.hd hcalm
  refine callType_codes (Q₁ := fun obj s₁ => s₁.TypeIs obj "tuple" ∧ EP X pins σ Q obj s₁) F.called_tuple (F.typeCall_tuple_1 _) F.entry_object_init
    (code_tup_dT I (A := X.A.in1) hh hd fun s' T bs I' hty hn hk => ⟨hty, .ref T, _, I', rfl, q T bs hn hk⟩) fun obj s₁ h₁ => ?_
  exact ⟨h₁.1, F.args_object_init_2 obj _, object_init_meets F.called_tuple.init.lookup F.called_tuple.made (by decide) X.prog X.w X.A.in1 _ s₁ ⟨h₁.1, rfl, h₁.2⟩⟩
/-- rows of a key tuple and a value -/
def RowsDT (H : Hp) (ps : List Addr) (rows : List (List Key × Addr × V)) : Prop := ps.length = rows.length ∧ ∀ (j : Nat) (p : Addr) (q : List Key × Addr × V), ps[j]? = some p → rows[j]? = some q → H p = some (.tup [.ref q.2.1, q.2.2]) ∧ H q.2.1 = some (.tup (q.1.map kV))
def putsK (acc : List (List Key × V)) (rows : List (List Key × Addr × V)) : List (List Key × V) := rows.foldl (fun acc q => putK acc q.1 q.2.2) acc
theorem putsK_len : ∀ (rows : List (List Key × Addr × V)) (acc : List (List Key × V)), (putsK acc rows).length ≤ acc.length + rows.length
  | [], acc => by show acc.length ≤ acc.length + 0; omega
  | q :: rows, acc => by
    have h1 := putsK_len rows (putK acc q.1 q.2.2)
    have h2 := length_putK acc q.1 q.2.2
    show (putsK (putK acc q.1 q.2.2) rows).length ≤ _
    rw [List.length_cons]
    omega
abbrev RV : List (List Key × Addr × V) → List (List Key × Addr × Value) → Prop := Paired fun q p => p.1 = q.1 ∧ p.2.1 = q.2.1 ∧ RelV q.2.2 p.2.2
theorem rows_vals {X : Cx} {pins : List (Addr × Obj)} {σ : L2.St} {H : Hp} {s : Shared} (I : Inv X pins σ H s) : ∀ {ps : List Addr} {rows : List (List Key × Addr × V)}, RowsDT H ps rows →
    ∃ prs : List (List Key × Addr × Value), RV rows prs ∧ ∀ (j : Nat) (q : List Key × Addr × Value), prs[j]? = some q → ∃ b : Addr, ps[j]? = some b ∧ IsTup s.heap b #[.ref q.2.1, q.2.2]
  | [], [], _ => ⟨[], .nil, fun j q h => by simp at h⟩
  | [], _ :: _, h => by simp [RowsDT] at h
  | _ :: _, [], h => by simp [RowsDT] at h
  | p :: ps, q :: rows, h => by
    obtain ⟨prs, r, hp⟩ := rows_vals I (ps := ps) (rows := rows) ⟨by simpa using h.1, fun j a b e1 e2 => h.2 (j + 1) a b (by simpa using e1) (by simpa using e2)⟩
    obtain ⟨h1, _⟩ := h.2 0 p q rfl rfl
    obtain ⟨its, rv, ht, _⟩ := I.tuple (SqT.of (K := X.K) h1)
    obtain ⟨u, y, ei, ru, ry⟩ := vals2 rv
    subst ei
    cases (show u = Value.ref q.2.1 from ru)
    refine ⟨(q.1, q.2.1, y) :: prs, .cons ⟨rfl, rfl, ry⟩ r, fun j z e => ?_⟩
    cases j with
    | zero => cases (Option.some.inj e); exact ⟨p, rfl, ht⟩
    | succ j => exact hp j z (by simpa using e)
theorem kt_puts {H : Hp} {rows : List (List Key × Addr × V)} {prs : List (List Key × Addr × Value)} {acc : List (List Key × V)} {xs : List (List Key × Addr × Value)} (r : RV rows prs) (hk : ∀ q ∈ rows, H q.2.1 = some (.tup (q.1.map kV))) (k : KT H acc xs) : KT H (putsK acc rows) (storedAllH xs prs) := by
  unfold RV at r
  induction r generalizing acc xs with
  | nil => exact k
  | @cons q p qs ps' h t ih =>
    obtain ⟨h1, h2, h3⟩ := h
    refine ih (acc := putK acc q.1 q.2.2) (xs := storedH xs p.1 p.2.1 p.2.2) (fun z hz => hk z (List.mem_cons_of_mem _ hz)) ?_
    rw [h1, h2]
    exact k.put q.1 (hk q List.mem_cons_self) h3
theorem call_dictPT {X : Cx} (hcalm : X.calm = true) (hu : X.A.units + 2 < cLine) : CallR X (.type "dict") (fun xs H Q => ∃ (a : Addr) (ps : List Addr) (rows : List (List Key × Addr × V)), xs = [.ref a] ∧ H a = some (.lst (ps.map V.ref)) ∧ RowsDT H ps rows ∧
    ∀ p, H p = none → Q (.ref p) (upd H p (.dT (putsK [] rows)))) := by
  intro pins s σ H xs us Q I r h
  obtain ⟨a, ps, rows, rfl, ha, hr, q⟩ := h
  obtain ⟨u, rfl, rx⟩ := r.one
  cases rx
  obtain ⟨its, rv, pl, hz⟩ := I.list (SqL.of (K := X.K) ha)
  have ei := L2.refs_at rv
  subst ei
  rw [List.length_map] at hz
  obtain ⟨prs, rel, hpr⟩ := rows_vals I hr
  have hl : prs.length = ps.length := by rw [← Paired.length rel, hr.1]
  obtain ⟨o, n, ho, hc, hd, hdat⟩ := pl
  have tupk : ∀ q ∈ rows, H q.2.1 = some (.tup (q.1.map kV)) := fun q hq => by
    obtain ⟨j, hj, rfl⟩ := List.getElem_of_mem hq
    exact (hr.2 j (ps[j]'(by rw [hr.1]; exact hj)) _ (List.getElem?_eq_getElem _) (List.getElem?_eq_getElem hj)).2
  have keyp : ∀ p ∈ prs, IsTupleKey (mixKind X.prog X.w) s.heap p.1 p.2.1 := by
    have : ∀ {rows : List (List Key × Addr × V)} {prs : List (List Key × Addr × Value)}, RV rows prs → (∀ q ∈ rows, H q.2.1 = some (.tup (q.1.map kV))) → ∀ p ∈ prs, IsTupleKey (mixKind X.prog X.w) s.heap p.1 p.2.1 := by
      intro rows prs r
      induction r with
      | nil => intro _ p hp; exact absurd hp List.not_mem_nil
      | @cons q p qs ps' h t ih =>
        intro hk z hz
        rcases List.mem_cons.mp hz with rfl | hz
        · rw [h.1, h.2.1]
          exact key_of I.hok (hk q List.mem_cons_self)
        · exact ih (fun y hy => hk y (List.mem_cons_of_mem _ hy)) z hz
    exact this rel tupk
  refine call_dict_pairsH (knd := tupleKind (mixKind X.prog X.w)) (ps := prs) (PairArg.list a (ps.map Value.ref).toArray (fun j => ps.getD j 0) (prs.map fun q => (.ref q.2.1, q.2.2))) (I.ok.hd hcalm) (show X.A.units + 1 + 1 < cLine by omega)
    ⟨⟨o, n, ho, hc, hd, hdat⟩, ?_, ?_⟩ ⟨?_, ?_⟩ ?_ (by rw [List.length_map, hl]; exact hz) fun h' tk hd' k => ?_
  · simp [hl]
  · intro j k v e
    rw [List.getElem?_map] at e
    obtain ⟨z, hz2, e2⟩ := Option.map_eq_some_iff.mp e
    cases e2
    obtain ⟨b, e1, ht⟩ := hpr j z hz2
    have ej : ps.getD j 0 = b := by rw [List.getD_eq_getElem?_getD, e1] <;> rfl
    show _ = some (Value.ref (ps.getD j 0)) ∧ PairAt s.heap (ps.getD j 0) _ _
    rw [ej]
    exact ⟨by simp [e1], .inl ht⟩
  · rw [List.length_map]
  · intro i key v e
    have e' : (prs.map fun q => ((Value.ref q.2.1, q.2.2) : Value × Value))[i]? = some (key, v) := e
    rw [List.getElem?_map] at e'
    obtain ⟨z, hz2, e2⟩ := Option.map_eq_some_iff.mp e'
    cases e2
    exact ⟨z.1, z.2.1, hz2, rfl⟩
  · intro h' hk x hx
    obtain ⟨ob, its2, n2, ho2, r2⟩ := keyp x hx
    exact ⟨ob, its2, n2, hk _ _ (Nat.ne_of_lt (Heap.lt_size ho2)) (by simp) ho2, r2⟩
  · have hm : (s.heap.objs.size == sysModules) = false := beq_eq_false_iff_ne.mpr (Nat.ne_of_gt I.big)
    have hn := I.hok.fresh (Nat.le_refl s.heap.objs.size)
    refine ⟨.ref s.heap.objs.size, upd H s.heap.objs.size (.dT (putsK [] rows)), I.laid (t' := tk) (fun b o e => k b o (by simp) e) (Nat.le_refl _) (show ObjOk X.prog X.w _ _ _ (.dT (putsK [] rows)) from ⟨?_, hm, storedAllH [] prs, ?_, ?_⟩), rfl, q _ hn⟩
    · have := putsK_len rows []
      rw [List.length_nil, Nat.zero_add, ← hr.1] at this
      omega
    · exact (kt_puts rel tupk .nil).keeps fun b ys e => by rw [upd_ne (ne_of_none e hn)]; exact e
    · obtain ⟨o, es, ep, hq, h2, h3, h4, _, h5⟩ := hd'
      exact ⟨o, es, ep, hq, h2, h3, h4, h5⟩
/-! ### shown data: one look -/
structure Sh (d : PyData) (n c : Nat) : Prop where
  s : d.showable = true
  dep : d.depth ≤ n
  c : cst d ≤ c
theorem shAll {α : Type} {f : α → PyData} {n c : Nat} : ∀ {xs : List α}, (∀ x ∈ xs, Sh (f x) n c) → PyData.showableAll (xs.map f) = true ∧ PyData.depthAll (xs.map f) ≤ n ∧ csts (xs.map f) ≤ (c + 4) * xs.length
  | [], _ => ⟨rfl, Nat.zero_le _, Nat.zero_le _⟩
  | x :: r, h => by
    obtain ⟨h1, h2, h3⟩ := shAll (xs := r) fun y hy => h y (List.mem_cons_of_mem _ hy)
    obtain ⟨g1, g2, g3⟩ := h x List.mem_cons_self
    refine ⟨?_, ?_, ?_⟩
    · simp only [List.map_cons, PyData.showableAll, g1, h1, Bool.and_self]
    · simp only [List.map_cons, PyData.depthAll]; omega
    · simp only [List.map_cons, csts, List.length_cons, Nat.mul_add, Nat.mul_one]; omega
theorem Sh.tup {α : Type} {f : α → PyData} {n c m k j : Nat} {xs : List α} (h : ∀ x ∈ xs, Sh (f x) n c) (hm : n + 1 ≤ m) (hl : xs.length ≤ j) (hk : (c + 4) * j + 4 ≤ k) : Sh (.tuple (xs.map f)) m k := by
  obtain ⟨h1, h2, h3⟩ := shAll h
  have h4 := Nat.mul_le_mul_left (c + 4) hl
  refine ⟨h1, ?_, ?_⟩
  · simp only [PyData.depth]; omega
  · show csts _ + 4 ≤ k; omega
theorem Sh.lst {α : Type} {f : α → PyData} {n c m k j : Nat} {xs : List α} (h : ∀ x ∈ xs, Sh (f x) n c) (hm : n + 1 ≤ m) (hl : xs.length ≤ j) (hk : (c + 4) * j + 4 ≤ k) : Sh (.list (xs.map f)) m k := by
  obtain ⟨h1, h2, h3⟩ := shAll h
  have h4 := Nat.mul_le_mul_left (c + 4) hl
  refine ⟨h1, ?_, ?_⟩
  · simp only [PyData.depth]; omega
  · show csts _ + 4 ≤ k; omega
theorem int_sh {i : Int} (h1 : -(10 ^ 100) ≤ i) (h2 : i ≤ 10 ^ 100) : Sh (.int i) 0 1921 := by
  refine ⟨?_, Nat.le_refl _, Nat.le_refl _⟩
  have : i.natAbs.log2 < 1920 := log_lt (by decide) (Nat.lt_of_le_of_lt (m := 10 ^ 100) (by omega) (by decide))
  simpa [PyData.showable] using this
theorem Sh.mono {d : PyData} {n c n' c' : Nat} (h : Sh d n c) (h1 : n ≤ n') (h2 : c ≤ c') : Sh d n' c' := ⟨h.s, Nat.le_trans h.dep h1, Nat.le_trans h.c h2⟩
theorem rep_ {K : PySem.W.Frag} {σ : L2.St} {H : Hp} {x : V} {d : PyData} {n c : Nat} {Q : VK} (hd : Dp K H x d) (s : Sh d n c) (hn : n ≤ 60 := by decide) (hc : c ≤ 10000000 := by decide) (q : Q (.str d.shown) H) :
    tNil σ H (fun xs H2 => (fun vs H1 => rRepr K vs H1 Q) (x :: xs) H2) :=
  ⟨x, d, rfl, hd, s.s, Nat.le_trans s.dep hn, shown_sz s.s (dp_noDict d x hd) (Nat.le_trans s.c hc), q⟩
theorem dps {α : Type} {K : PySem.W.Frag} {H : Hp} {g : α → V} {f : α → PyData} : ∀ {xs : List α}, (∀ x ∈ xs, Dp K H (g x) (f x)) → DpAll K H (xs.map g) (xs.map f)
  | [], _ => .nil
  | x :: r, h => .cons (h x List.mem_cons_self) (dps fun y hy => h y (List.mem_cons_of_mem _ hy))
/-! ### data: figures of a number -/
def fig (k n at_ : Nat) : Int := Builtin.bitAnd ((n : Int) / 2 ^ (((k : Int) - 1 - at_).toNat)) 1
def figs (k n : Nat) : List Int := (List.range k).map (fig k n)
def num (fs : List Int) : Int := fs.foldl (fun f o => 2 * f + o) 0
def lline (k h g lv : Nat) : Int := num ((figs k g).take lv ++ (figs k h).drop lv)
def low (k h g lv : Nat) : Int := Builtin.bitOr ((g : Int) / 2 ^ ((k : Int) - lv).toNat * 2 ^ ((k : Int) - lv).toNat) (Builtin.bitAnd h (1 * 2 ^ ((k : Int) - lv).toNat - 1))
def nwo (k l st : Nat) : Int := Builtin.bitOr ((l : Int) / 2 ^ ((k : Int) - st + 1).toNat * 2 ^ ((k : Int) - st).toNat) (Builtin.bitAnd l (1 * 2 ^ ((k : Int) - st).toNat - 1))
def nums (k l st : Nat) : Int := num ((figs k l).take (st - 1) ++ (figs k l).drop st)
theorem low_is : ∀ k, k < 5 → ∀ h, h < 2 ^ k → ∀ g, g < 2 ^ k → ∀ lv, lv < k + 1 → low k h g lv = lline k h g lv := by decide +kernel
theorem lline_in : ∀ k, k < 5 → ∀ h, h < 2 ^ k → ∀ g, g < 2 ^ k → ∀ lv, lv < k + 1 → 0 ≤ lline k h g lv ∧ lline k h g lv < 2 ^ k := by decide +kernel
theorem nwo_is : ∀ k, k < 5 → ∀ l, l < 2 ^ k → ∀ st, st < k + 1 → st = 0 ∨ nwo k l st = nums k l st := by decide +kernel
theorem nums_same : ∀ k, k < 5 → ∀ h, h < 2 ^ k → ∀ g, g < 2 ^ k → ∀ st, st < k → nums k (lline k h g (st + 1)).toNat (st + 1) = nums k (lline k h g st).toNat (st + 1) := by decide +kernel
theorem cut_to {xs : List V} (n : Nat) : cutV xs none (some (n : Int)) = xs.take n := by
  unfold cutV
  rw [HT.sIx_nat, HT.sIx_none, List.drop_zero, Nat.sub_zero]
  by_cases c : n ≤ xs.length
  · rw [Nat.min_eq_left c]
  · rw [Nat.min_eq_right (by omega), List.take_length, List.take_of_length_le (by omega)]
theorem cut_from {xs : List V} (n : Nat) : cutV xs (some (n : Int)) none = xs.drop n := by
  unfold cutV
  rw [HT.sIx_nat, HT.sIx_none]
  by_cases c : n ≤ xs.length
  · rw [Nat.min_eq_left c]
    exact List.take_of_length_le (by rw [List.length_drop]; omega)
  · rw [Nat.min_eq_right (by omega), Nat.sub_self, List.take_zero, List.drop_of_length_le (by omega)]
theorem bits_one : Builtin.Int.intBits 1 ≤ 10 := by decide +kernel
theorem shl_ok {n : Nat} (h : n ≤ 1000) : CShl 1 (n : Int) := by
  have := bits_one
  exact ⟨by omega, by omega⟩
theorem shl_small {i j : Int} (h : i.natAbs < 2 ^ 64) (h0 : 0 ≤ j) (h1 : j ≤ 1000) : CShl i j := by
  refine ⟨h0, ?_⟩
  have h2 := log_lt (n := 64) (by decide) h
  unfold Builtin.Int.intBits
  split <;> omega
theorem div_small {g m : Nat} (h : g < 2 ^ 64) : ((g : Int) / 2 ^ m).natAbs < 2 ^ 64 := by
  have e : (g : Int) / 2 ^ m = ((g / 2 ^ m : Nat) : Int) := by push_cast; rfl
  rw [e, Int.natAbs_natCast]
  exact Nat.lt_of_le_of_lt (Nat.div_le_self _ _) h
theorem pow16 {k g : Nat} (hk : k ≤ 4) (h : g < 2 ^ k) : g < 16 := Nat.lt_of_lt_of_le h (Nat.pow_le_pow_right (by decide) hk : 2 ^ k ≤ 2 ^ 4)
def Bits (fs : List Int) : Prop := (∀ x ∈ fs, 0 ≤ x ∧ x ≤ 1) ∧ fs.length ≤ 10
theorem figs_all : ∀ k, k < 5 → ∀ n, n < 2 ^ k → (figs k n).all (fun x => decide (0 ≤ x) && decide (x ≤ 1)) = true := by decide +kernel
theorem figs_bits {k n : Nat} (h : k ≤ 4) (hn : n < 2 ^ k) : Bits (figs k n) := by
  have h1 := figs_all k (by omega) n hn
  rw [List.all_eq_true] at h1
  refine ⟨fun x hx => ?_, by unfold figs; rw [List.length_map, List.length_range]; omega⟩
  have := h1 x hx
  simpa using this
theorem Bits.cat {k : Nat} {xs ys : List Int} (h : k ≤ 4) (a : ∀ x ∈ xs, 0 ≤ x ∧ x ≤ 1) (b : ∀ x ∈ ys, 0 ≤ x ∧ x ≤ 1) (i j : Nat) (hx : xs.length ≤ 5) (hy : ys.length ≤ 5) : Bits (xs.take i ++ ys.drop j) := by
  refine ⟨fun x hm => ?_, by rw [List.length_append, List.length_take, List.length_drop]; omega⟩
  rcases List.mem_append.mp hm with h | h
  · exact a x (List.mem_of_mem_take h)
  · exact b x (List.mem_of_mem_drop h)
theorem num_snoc {fs : List Int} {x : Int} : num (fs ++ [x]) = 2 * num fs + x := by unfold num; rw [List.foldl_append] <;> rfl
theorem num_in : ∀ {fs : List Int} (n : Nat), Bits fs → 0 ≤ num (fs.take n) ∧ num (fs.take n) < 2 ^ n := by
  intro fs n h
  induction n with
  | zero => rw [List.take_zero]; exact ⟨by decide, by decide⟩
  | succ n ih =>
    by_cases c : n < fs.length
    · rw [List.take_succ_eq_append_getElem c, num_snoc]
      have := h.1 _ (List.getElem_mem c)
      have e : (2 : Int) ^ (n + 1) = 2 ^ n * 2 := Int.pow_succ 2 n
      omega
    · rw [List.take_of_length_le (by omega)]
      rw [List.take_of_length_le (by omega)] at ih
      have e : (2 : Int) ^ (n + 1) = 2 ^ n * 2 := Int.pow_succ 2 n
      omega
theorem figs_len {k n : Nat} : (figs k n).length = k := by unfold figs; rw [List.length_map, List.length_range]
theorem repF_len {n : Nat} : ((List.replicate n false).map V.bl).length = n := by rw [List.length_map, List.length_replicate]
theorem repF_snoc {n : Nat} : (List.replicate n false).map V.bl ++ [V.bl false] = (List.replicate (n + 1) false).map V.bl := by rw [List.replicate_succ', List.map_append] <;> rfl
theorem repF_any (n : Nat) : (List.replicate n false).any id = false := by
  induction n with
  | zero => rfl
  | succ n ih => rw [List.replicate_succ, List.any_cons, ih] <;> rfl
def SwAt (H : Hp) (T : Addr) (k h g : Nat) : Prop := ∃ as : List Addr, H T = some (.tup (as.map V.ref)) ∧ as.length = k ∧ ∀ (j : Nat) (a : Addr), as[j]? = some a → H a = some (.tup [.int ((j + 1 : Nat) : Int), .int (nwo k (lline k h g j).toNat (j + 1))])
theorem primes6 : ∀ j : Nat, j < 6 → ∃ z : Int, ([.int 2147483647, .int 2147483629, .int 2147483587, .int 2147483579, .int 2147483563, .int 2147483549] : List V)[j]? = some (.int z) ∧ 2147483549 ≤ z ∧ z ≤ 2147483647
  | 0, _ => ⟨_, rfl, by decide, by decide⟩
  | 1, _ => ⟨_, rfl, by decide, by decide⟩
  | 2, _ => ⟨_, rfl, by decide, by decide⟩
  | 3, _ => ⟨_, rfl, by decide, by decide⟩
  | 4, _ => ⟨_, rfl, by decide, by decide⟩
  | 5, _ => ⟨_, rfl, by decide, by decide⟩
  | n + 6, h => absurd h (by omega)
/-! ### where ways meet and part (k32; wants st3d) -/
theorem bx_all : ∀ a, a < 16 → ∀ b, b < 16 → Builtin.bitXor (a : Nat) (b : Nat) = ((a ^^^ b : Nat) : Int) := by decide +kernel
theorem bx {k a b : Nat} (hk : k < 5) (ha : a < 2 ^ k) (hb : b < 2 ^ k) : Builtin.bitXor (a : Nat) (b : Nat) = ((a ^^^ b : Nat) : Int) := by
  have e16 : 2 ^ k ≤ 16 := (Nat.pow_le_pow_right (by decide) (by omega) : 2 ^ k ≤ 2 ^ 4)
  exact bx_all a (by omega) b (by omega)
def mt (k x : Nat) : Int := (k : Int) + 1 - (Builtin.Int.intBits (Builtin.bitAnd (x : Nat) (0 - (x : Nat))) : Nat)
def pt (k x : Nat) : Int := (k : Int) + 1 - (Builtin.Int.intBits (x : Nat) : Nat)
theorem mt_in : ∀ k, k < 5 → ∀ a, a < 2 ^ k → ∀ b, b < 2 ^ k → a = b ∨ (1 ≤ mt k (a ^^^ b) ∧ mt k (a ^^^ b) ≤ k) := by decide +kernel
theorem pt_in : ∀ k, k < 5 → ∀ a, a < 2 ^ k → ∀ b, b < 2 ^ k → a = b ∨ (1 ≤ pt k (a ^^^ b) ∧ pt k (a ^^^ b) ≤ k) := by decide +kernel
set_option synthInstance.maxHeartbeats 0 in
set_option synthInstance.maxSize 2000 in
theorem mt_low : ∀ k, k < 5 → ∀ a, a < 2 ^ k → ∀ b, b < 2 ^ k → ∀ g, g < 2 ^ k → ∀ l, l < k + 1 → a = b ∨ decide (low k a g l = low k b g l) = decide (mt k (a ^^^ b) ≤ l) := by decide +kernel
set_option synthInstance.maxHeartbeats 0 in
set_option synthInstance.maxSize 2000 in
theorem pt_low : ∀ k, k < 5 → ∀ a, a < 2 ^ k → ∀ b, b < 2 ^ k → ∀ h, h < 2 ^ k → ∀ l, l < k + 1 → a = b ∨ decide (low k h a l = low k h b l) = !decide (pt k (a ^^^ b) ≤ l) := by decide +kernel
/-! lists of truths beside one another -/
theorem bools_sh : ∀ bs : List Bool, PyData.canLayAll0 (bs.map PyData.bool) = true ∧ PyData.depthAll (bs.map PyData.bool) = 0
  | [] => ⟨rfl, rfl⟩
  | b :: r => by
    obtain ⟨h1, h2⟩ := bools_sh r
    refine ⟨?_, ?_⟩
    · show (true && PyData.canLayAll0 (r.map PyData.bool)) = true
      rw [h1] <;> rfl
    · show max 0 (PyData.depthAll (r.map PyData.bool)) = 0
      omega
theorem bools_shaped (bs : List Bool) : SeqAt.shaped (.list (bs.map PyData.bool)) = true := by
  obtain ⟨h1, h2⟩ := bools_sh bs
  unfold SeqAt.shaped
  simp only [PyData.canLay0, h1, PyData.depth, h2, Bool.true_and]
  decide
theorem bools_dp {K : PySem.W.Frag} {H : Hp} {L : Addr} {bs : List Bool} (h : H L = some (.lst (bs.map V.bl))) : Dp K H (.ref L) (.list (bs.map PyData.bool)) := .lst (SqL.of h) (dps (g := V.bl) (f := PyData.bool) fun x _ => .bl x)
theorem bools_refl (bs : List Bool) : PyData.eqv (.list (bs.map PyData.bool)) (.list (bs.map PyData.bool)) = true := SeqAt.eqv_refl _ (SeqAt.canLay_of_shaped (bools_shaped bs))
/-- truths by levels -/
def toldB (k t : Nat) (m : Bool) : List Bool := (List.range (k + 1)).map fun l => m == decide (t ≤ l)
theorem toldB_is {k t : Nat} (m : Bool) (h : t ≤ k + 1) : List.replicate t (!m) ++ List.replicate (k + 1 - t) m = toldB k t m := by
  refine List.ext_getElem? fun i => ?_
  unfold toldB
  rw [List.getElem?_map]
  by_cases c : i < t
  · rw [List.getElem?_append_left (by rw [List.length_replicate]; exact c), List.getElem?_replicate, if_pos c, List.getElem?_range (by omega)]
    show some (!m) = some (m == decide (t ≤ i))
    rw [decide_eq_false (by omega)]
    cases m <;> rfl
  · rw [List.getElem?_append_right (by rw [List.length_replicate]; omega), List.length_replicate, List.getElem?_replicate]
    by_cases c2 : i < k + 1
    · rw [if_pos (by omega), List.getElem?_range c2]
      show some m = some (m == decide (t ≤ i))
      rw [decide_eq_true (by omega)]
      cases m <;> rfl
    · rw [if_neg (by omega), List.getElem?_eq_none (by rw [List.length_range]; omega)] <;> rfl
/-- the ways by hands and sides -/
def kP (h g : Nat) : List Key := [Sum.inl (h : Int), Sum.inl (g : Int)]
theorem kP_ne {h g h' g' : Nat} (e : kP h g = kP h' g') : h = h' ∧ g = g' := by
  unfold kP at e
  simp only [List.cons.injEq, Sum.inl.injEq, and_true] at e
  omega
def WysAt (H : Hp) (kvs : List (List Key × V)) (k : Nat) (P : Nat → Nat → Prop) : Prop := ∀ h g, P h g → ∃ T : Addr, valV kvs (kP h g) = some (.ref T) ∧ H T = some (.tup (((List.range (k + 1)).map (low k h g)).map V.int))
theorem WysAt.same {H H' : Hp} {kvs : List (List Key × V)} {k : Nat} {P : Nat → Nat → Prop} (a : WysAt H kvs k P) (e : Same H H') : WysAt H' kvs k P := fun h g p => by
  obtain ⟨T, h1, h2⟩ := a h g p
  exact ⟨T, h1, e _ _ h2⟩
theorem WysAt.but {H H' : Hp} {W : Addr} {o : List (List Key × V)} {kvs : List (List Key × V)} {k : Nat} {P : Nat → Nat → Prop} (a : WysAt H kvs k P) (e : But W H H') (hW : H W = some (.dT o)) : WysAt H' kvs k P := fun h g p => by
  obtain ⟨T, h1, h2⟩ := a h g p
  exact ⟨T, h1, e _ _ (ne_of h2 hW (by intro z; cases z)) h2⟩
theorem WysAt.put {H : Hp} {kvs : List (List Key × V)} {k h g : Nat} {P P' : Nat → Nat → Prop} {T : Addr} (a : WysAt H kvs k P) (hT : H T = some (.tup (((List.range (k + 1)).map (low k h g)).map V.int))) (imp : ∀ x y, P' x y → (x = h ∧ y = g) ∨ P x y) : WysAt H (putK kvs (kP h g) (.ref T)) k P' := fun x y p => by
  by_cases c : x = h ∧ y = g
  · obtain ⟨rfl, rfl⟩ := c
    exact ⟨T, by rw [valV_put, if_pos rfl], hT⟩
  · obtain ⟨T', h1, h2⟩ := a x y ((imp x y p).resolve_left c)
    exact ⟨T', by rw [valV_put, if_neg fun z => c (kP_ne z)]; exact h1, h2⟩
/-! SPLIT -/
local macro_rules | `(tactic| walk_at "own") => `(tactic| fail)
local macro_rules | `(tactic| walk_at "sm") => `(tactic| first
  | with_reducible assumption
  | exact fun _ _ z => z
  | (apply Toy.same_bk; (with_reducible assumption); walk_at "sm")
  | solve_by_elim only [Toy.same_bk, *])
local macro_rules | `(tactic| walk_at "hp") => `(tactic| ((with_reducible refine (?_ : _ = some _)); first
  | with_reducible assumption
  | exact L2.upd_same
  | (apply Toy.hp_new; assumption; walk_at "hp")
  | (apply Toy.hp_at; (with_reducible assumption); walk_at "sm")))
local macro_rules | `(tactic| walk_at "sql") => `(tactic| first
  | with_reducible assumption
  | (apply L2.SqL.of; walk_at "hp")
  | (apply Toy.sql_at; (with_reducible assumption); walk_at "sm"))
local macro_rules | `(tactic| walk_at "sqt") => `(tactic| first
  | with_reducible assumption
  | (apply L2.SqT.of; walk_at "hp")
  | (apply Toy.sqt_at; (with_reducible assumption); walk_at "sm"))
local macro_rules | `(tactic| walk_at "ar") => `(tactic| first
  | with_reducible refine (?_ : (_ : Int) < _)
  | with_reducible refine (?_ : (_ : Int) ≤ _)
  | with_reducible refine (?_ : (_ : Nat) < _)
  | with_reducible refine (?_ : (_ : Nat) ≤ _)
  | with_reducible refine (?_ : (_ : Int) = _)
  | with_reducible refine (?_ : (_ : Nat) = _)
  | with_reducible refine (?_ : ¬ _)
  | with_reducible refine (?_ : _ ∧ _))
local macro_rules | `(tactic| walk_at "om") => `(tactic| (walk_at "ar"; omega))
local macro_rules | `(tactic| walk_at "num") => `(tactic| first
  | (walk_at "ar"; first
    | omega
    | (simp only [List.length_map, List.length_append, List.length_cons, List.length_nil, List.length_replicate, List.length_take, List.length_drop, List.length_range, List.length_set, List.length_reverse] <;> omega)
    | decide
    | (split <;> split <;> omega)
    | (split <;> omega))
  | decide)
local macro_rules | `(tactic| walk_at "side") => `(tactic| first
  | with_reducible rfl
  | walk_at "om"
  | with_reducible assumption
  | exact Toy.sz
  | (apply L2.SqL.of; walk_at "hp")
  | (apply L2.SqT.of; walk_at "hp")
  | (with_reducible apply Or.inl; walk_at "sql")
  | (with_reducible apply Or.inr; walk_at "sqt")
  | (with_reducible apply Exists.intro; walk_at "side")
  | walk_at "hp"
  | exact Eq.refl _
  | (apply Toy.lk1000; walk_at "num")
  | (apply Toy.lt1000; walk_at "num")
  | walk_at "num"
  | (apply Toy.lst_dp; apply L2.SqL.of; walk_at "hp")
  | (apply Toy.tupI_dp; apply L2.SqT.of; walk_at "hp")
  | exact Toy.ints_sh _
  | exact Toy.tupI_sh _
  | (apply L2.RgOk.of_le <;> walk_at "num")
  | (apply L2.atI_nat; assumption)
  | exact L2.Dp.lst (L2.SqL.of (by walk_at "hp")) L2.DpAll.nil
  | exact L2.Dp.tup (L2.SqT.of (by walk_at "hp")) L2.DpAll.nil
  | (apply Toy.ixn; walk_at "num")
  | exact Toy.tyL (by walk_at "hp")
  | walk_at "sql"
  | walk_at "sqt"
  | exact L2.ClsV.ty _
  | (apply L2.TyX.base; first | exact L2.TyOf.int _ | exact L2.TyOf.bl _ | exact L2.TyOf.non | exact L2.TyOf.str _ | (apply L2.TyOf.tup; walk_at "hp") | (apply L2.TyOf.lst; walk_at "hp"))
  | exact L2.kit_ty (r := true) (by decide +kernel)
  | exact L2.kit_ty (r := false) (by decide +kernel)
  | walk_at "own"
  | assumption
  | (walk_at "ar"; solve_by_elim only [Toy.hp_same, Toy.hp_new, L2.upd_same, *]))
local macro_rules | `(tactic| walk_at "go") => `(tactic| first
  | (apply And.intro; (focus (walk_at "side")); try walk_at "go")
  | (apply Exists.intro; rotate_left; (fail_if_success (with_reducible refine (?_ : Nat → _ → _))); (fail_if_success (with_reducible refine (?_ : L2.St → _ → _))); rotate_right; try walk_at "go")
  | (apply Or.inl; apply And.intro; (focus (walk_at "sql")); try walk_at "go")
  | (apply Or.inr; apply And.intro; (focus (walk_at "sqt")); try walk_at "go"))
/-! ENDM -/
section
variable {P : Program} {w : World} {K : PySem.W.Frag} {mg : Str → Option Value} {base : Heap} (B : Bl K mg)
include B
/-! ### the program: nets -/
def spIsWhole : Sp := fun vs H Q _ => ∃ i, vs = [.int i] ∧ Q (.bl true) H
theorem k_is_whole (D : Df K mg "is_whole" s_is_whole ["thing"]) : Dn P w K mg base 1 "is_whole" ["thing"] spIsWhole := by
  refine D.ok fun f fd F => okG0 F sc_is_whole (fun vs H Q E h => ?_) (fun cdv A outer s H vs Q E hr h => ⟨_, (pss_one (ps_ret (pe_and (pe_callB (kk (K := K) (F := rIsi) (P := CallR _ _) call_isi) (by rfl) B.isinstance_ (by decide +kernel) (pa_cons (pv 0) (pa_cons (pe_bltn (v := .ty "int") (u := .type "int") (by rfl) B.int_ (by decide +kernel) rfl) pa_nil))) (pe_one (pe_not (pe_callB (kk (K := K) (F := rIsi) (P := CallR _ _) call_isi) (by rfl) B.isinstance_ (by decide +kernel) (pa_cons (pv 0) (pa_cons (pe_bltn (v := .ty "bool") (u := .type "bool") (by rfl) B.bool_ (by decide +kernel) rfl) pa_nil)))))))), ?_⟩)
  · obtain ⟨i, rfl, _⟩ := h; rfl
  · obtain ⟨i, rfl, q⟩ := h
    refine ⟨_, rfl, _, _, _, _, _, rfl, .ty _, .base (.int _), kit_ty (b := "int") (r := true) (by decide +kernel), _, rfl, iteT ?_⟩
    refine ⟨_, rfl, _, _, _, _, _, rfl, .ty _, .base (.int _), kit_ty (b := "bool") (r := false) (by decide +kernel), _, rfl, ?_⟩
    exact q
def spIsWithin : Sp := fun vs H Q _ => ∃ i a b : Int, vs = [.int i, .int a, .int b] ∧ a ≤ i ∧ i ≤ b ∧ Q (.bl true) H
theorem k_is_within (D : Df K mg "is_within" s_is_within ["thing", "least", "most"]) (D_is_whole : Dn P w K mg base 1 "is_whole" ["thing"] spIsWhole) : Dn P w K mg base 2 "is_within" ["thing", "least", "most"] spIsWithin := by
  refine D.ok fun f fd F => okG0 F sc_is_within (fun vs H Q E h => ?_) (fun cdv A outer s H vs Q E hr h => ⟨_, (pss_one (ps_ret (pe_and (pe_cD D_is_whole (hr.less (by decide)) rfl (pa_cons (pv 0) pa_nil)) (pe_one (pe_chain op_le op_le (pv 1) (pv 0) (pv 2)))))), ?_⟩)
  · obtain ⟨i, a, b, rfl, _⟩ := h; rfl
  · obtain ⟨i, a, b, rfl, h1, h2, q⟩ := h
    refine ⟨_, rfl, i, rfl, _, rfl, iteT ?_⟩
    refine ⟨_, rfl, _, rfl, _, _, rfl, rfl, _, rfl, ifT (decide_eq_true h1) ⟨_, rfl, _, _, rfl, rfl, ?_⟩⟩
    exact (show Q (.bl (decide (i ≤ b))) H by rw [decide_eq_true h2]; exact q)
def spWantNet : Sp := fun vs H Q _ => ∃ i d : Int, vs = [.int i, .int d] ∧ 0 ≤ i ∧ i ≤ d ∧ Q .non H
theorem k_want_net (D : Dfd K mg "want_net" s_want_net ["k", "deepest"] [.int 4]) (D_is_within : Dn P w K mg base 2 "is_within" ["thing", "least", "most"] spIsWithin) : DnD P w K mg base 3 "want_net" ["k", "deepest"] [.int 4] spWantNet := by
  refine D.ok fun f fd F => okG0A F sc_want_net (fun vs H Q E h => ?_) (fun cdv A outer s H vs Q E hr h => ⟨_, (pss_one (ps_if (pt_not (pt_val (pe_cD D_is_within (hr.less (by decide)) rfl (pa_cons (pv 0) (pa_cons pe_int (pa_cons (pv 1) pa_nil))))))
     (pss_one ps_never)
     pss_nil)), ?_⟩)
  · obtain ⟨i, d, rfl, _⟩ := h; rfl
  · obtain ⟨i, d, rfl, h1, h2, q⟩ := h
    exact ⟨_, rfl, _, rfl, i, 0, d, rfl, h1, h2, _, rfl, iteF q⟩
def spIsLine : Sp := fun vs H Q _ => ∃ k i : Nat, vs = [.int k, .int i] ∧ k ≤ 4 ∧ i < 2 ^ k ∧ Q (.bl true) H
theorem k_is_line (D : Df K mg "is_line" s_is_line ["k", "thing"]) (D_is_whole : Dn P w K mg base 1 "is_whole" ["thing"] spIsWhole) : Dn P w K mg base 2 "is_line" ["k", "thing"] spIsLine := by
  refine D.ok fun f fd F => okG0 F sc_is_line (fun vs H Q E h => ?_) (fun cdv A outer s H vs Q E hr h => ⟨_, (pss_one (ps_ret (pe_and (pe_cD D_is_whole (hr.less (by decide)) rfl (pa_cons (pv 1) pa_nil)) (pe_one (pe_chain op_le op_lt pe_int (pv 1) (pe_op op_shlW pe_int (pv 0))))))), ?_⟩)
  · obtain ⟨k, i, rfl, _⟩ := h; rfl
  · obtain ⟨k, i, rfl, h1, h2, q⟩ := h
    refine ⟨_, rfl, i, rfl, _, rfl, iteT ?_⟩
    refine ⟨_, rfl, _, _, rfl, rfl, _, rfl, ifT (decide_eq_true (by omega)) ⟨_, rfl, _, _, rfl, rfl, shl_ok (by omega), _, _, rfl, rfl, ?_⟩⟩
    have h3 : (i : Int) < 1 * 2 ^ ((k : Int)).toNat := by
      rw [Int.toNat_natCast, Int.one_mul]
      exact_mod_cast h2
    exact (show Q (.bl (decide ((i : Int) < 1 * 2 ^ ((k : Int)).toNat))) H by rw [decide_eq_true h3]; exact q)
def spWantLine : Sp := fun vs H Q _ => ∃ k i : Nat, vs = [.int k, .int i] ∧ k ≤ 4 ∧ i < 2 ^ k ∧ Q .non H
theorem k_want_hand (D : Df K mg "want_hand" s_want_hand ["k", "thing"]) (D_is_line : Dn P w K mg base 2 "is_line" ["k", "thing"] spIsLine) : Dn P w K mg base 3 "want_hand" ["k", "thing"] spWantLine := by
  refine D.ok fun f fd F => okG0 F sc_want_hand (fun vs H Q E h => ?_) (fun cdv A outer s H vs Q E hr h => ⟨_, (pss_one (ps_if (pt_not (pt_val (pe_cD D_is_line (hr.less (by decide)) rfl (pa_cons (pv 0) (pa_cons (pv 1) pa_nil)))))
     (pss_one ps_never)
     pss_nil)), ?_⟩)
  · obtain ⟨k, i, rfl, _⟩ := h; rfl
  · obtain ⟨k, i, rfl, h1, h2, q⟩ := h
    exact ⟨_, rfl, _, rfl, k, i, rfl, h1, h2, _, rfl, iteF q⟩
theorem k_want_side (D : Df K mg "want_side" s_want_side ["k", "thing"]) (D_is_line : Dn P w K mg base 2 "is_line" ["k", "thing"] spIsLine) : Dn P w K mg base 3 "want_side" ["k", "thing"] spWantLine := by
  refine D.ok fun f fd F => okG0 F sc_want_side (fun vs H Q E h => ?_) (fun cdv A outer s H vs Q E hr h => ⟨_, (pss_one (ps_if (pt_not (pt_val (pe_cD D_is_line (hr.less (by decide)) rfl (pa_cons (pv 0) (pa_cons (pv 1) pa_nil)))))
     (pss_one ps_never)
     pss_nil)), ?_⟩)
  · obtain ⟨k, i, rfl, _⟩ := h; rfl
  · obtain ⟨k, i, rfl, h1, h2, q⟩ := h
    exact ⟨_, rfl, _, rfl, k, i, rfl, h1, h2, _, rfl, iteF q⟩
def spLow : Sp := fun vs H Q _ => ∃ k h g lv : Nat, vs = [.int k, .int h, .int g, .int lv] ∧ k ≤ 4 ∧ lv ≤ k ∧ g < 2 ^ k ∧ Q (.int (low k h g lv)) H
theorem k_line_on_way (D : Df K mg "line_on_way" s_line_on_way ["k", "hand", "goal", "level"]) : Dn P w K mg base 1 "line_on_way" ["k", "hand", "goal", "level"] spLow := by
  refine D.ok fun f fd F => okG0 F sc_line_on_way (fun vs H Q E h => ?_) (fun cdv A outer s H vs Q E hr h => ⟨_, (pss_cons (ps_set (i := 4) sc_line_on_way.nd rfl (Or.inl rfl) (pe_op op_sub (pv 0) (pv 3)))
    (pss_one (ps_ret (pe_op op_or (pe_op op_shlW (pe_op op_shr (pv 2) (pv 4)) (pv 4)) (pe_op op_and (pv 1) (pe_op op_sub (pe_op op_shlW pe_int (pv 4)) pe_int)))))), ?_⟩)
  · obtain ⟨k, x, g, lv, rfl, _⟩ := h; rfl
  · obtain ⟨k, x, g, lv, rfl, h1, h2, h3, q⟩ := h
    have h4 := pow16 h1 h3
    refine ⟨_, rfl, _, rfl, _, _, rfl, rfl, ?_⟩
    refine ⟨_, rfl, _, rfl, _, _, rfl, rfl, by omega, _, rfl, _, _, rfl, rfl, shl_small (div_small (Nat.lt_of_lt_of_le h4 (by decide))) (by omega) (by omega), ?_⟩
    refine ⟨_, rfl, _, rfl, _, _, rfl, rfl, shl_small (by decide) (by omega) (by omega), _, _, rfl, rfl, _, _, rfl, rfl, _, _, rfl, rfl, ?_⟩
    exact q
def spWay : Sp := fun vs H Q _ => ∃ k h g : Nat, vs = [.int k, .int h, .int g] ∧ k ≤ 4 ∧ h < 2 ^ k ∧ g < 2 ^ k ∧ ∀ T H', Same H H' → H' T = some (.tup (((List.range (k + 1)).map (low k h g)).map V.int)) → Q (.ref T) H'
theorem k_way (D : Df K mg "way" s_way ["k", "hand", "side"]) (D_want_net : DnD P w K mg base 3 "want_net" ["k", "deepest"] [.int 4] spWantNet) (D_want_hand : Dn P w K mg base 3 "want_hand" ["k", "thing"] spWantLine) (D_want_side : Dn P w K mg base 3 "want_side" ["k", "thing"] spWantLine) (D_line_on_way : Dn P w K mg base 1 "line_on_way" ["k", "hand", "goal", "level"] spLow) : Dn P w K mg base 4 "way" ["k", "hand", "side"] spWay := by
  refine D.ok fun f fd F => okG0 F sc_way (fun vs H Q E h => ?_) (fun cdv A outer s H vs Q E hr h => ⟨_, (pss_cons (ps_expr (pe_cDd D_want_net (hr.less (by decide)) rfl (pa_cons (pv 0) pa_nil)))
    (pss_cons (ps_expr (pe_cD D_want_hand (hr.less (by decide)) rfl (pa_cons (pv 0) (pa_cons (pv 1) pa_nil))))
    (pss_cons (ps_expr (pe_cD D_want_side (hr.less (by decide)) rfl (pa_cons (pv 0) (pa_cons (pv 2) pa_nil))))
    (pss_one (ps_ret (pe_callTy (tupOfK (K := K)) (by rfl) B.tuple_ (by decide +kernel) (pa_cons (pe_lc (own := [("level", 3)]) (g := gName 3) (tt := tYes) rfl sc_way.nd (pi_range1 (by rfl) B.range_ (pa_cons (pe_op op_add (pv 0) pe_int) pa_nil)) (blkOk_by (own := [("level", 3)]) (N := ["k", "hand", "side", "level"]) (sc := defScope s_way) (by decide +kernel)) (fun _ _ _ _ _ => (pg_name (i := 3) sc_way.nd rfl (Or.inl rfl))) (fun _ _ _ _ _ => pts_nil) (fun _ _ _ _ _ => (pe_cD D_line_on_way (hr.less (by decide)) rfl (pa_cons (pv 0) (pa_cons (pv 1) (pa_cons (pv 2) (pa_cons (pv 3) pa_nil))))))) pa_nil))))))), ?_⟩)
  · obtain ⟨k, x, g, rfl, _⟩ := h; rfl
  · obtain ⟨k, x, g, rfl, h1, h2, h3, q⟩ := h
    refine ⟨_, rfl, (k : Int), 4, rfl, by omega, by omega, _, rfl, _, rfl, k, x, rfl, h1, h2, _, rfl, _, rfl, k, g, rfl, h1, h3, ?_⟩
    refine ⟨_, rfl, _, _, rfl, rfl, _, rfl, by omega, by omega, fun D hD => ?_⟩
    have e : ((k : Int) + 1).toNat = k + 1 := by omega
    rw [e]
    refine lc_range (lo := 0) (n := k + 1) (fun i H2 => Same H H2 ∧ H2 D = some (.lst (((List.range i).map (low k x g)).map V.int))) ⟨same_new hD _, upd_same⟩ ?_ ?_
    · rintro i H2 hi ⟨S2, hD2⟩
      refine ⟨rfl, _, rfl, _, rfl, _, rfl, _, rfl, k, x, g, i, by show [V.int (k : Int), V.int x, V.int g, V.int (0 + (i : Int))] = _; rw [Int.zero_add], h1, by omega, h3, ?_⟩
      refine ⟨_, hD2, small1000 (by rw [List.length_map, List.length_map, List.length_range]; omega), but_same hD S2 But.upd, ?_⟩
      rw [upd_same, List.range_succ, List.map_append, List.map_append] <;> rfl
    · rintro H2 ⟨S2, hD2⟩
      refine ⟨D, _, rfl, .inl ⟨SqL.of hD2, fun T hT => q T _ (S2.trans (same_new hT _)) upd_same⟩⟩
def spRich (K : PySem.W.Frag) : Sp := fun vs H Q _ => ∃ (c : Int) (tn : Nat), vs = [.int c, .int tn] ∧ tn ≤ 100000 ∧ ∀ n H', Same H H' → 0 ≤ n → Q (.int n) H'
theorem k__law_rich (D : Df K mg "_law_rich" s__law_rich ["_law_cell", "_law_turn"]) : Dn P w K mg base 1 "_law_rich" ["_law_cell", "_law_turn"] (spRich K) := by
  refine D.ok fun f fd F => okG0 F sc__law_rich (fun vs H Q E h => ?_) (fun cdv A outer s H vs Q E hr h => ⟨_, (pss_cons (ps_set (i := 2) sc__law_rich.nd rfl (Or.inl rfl) pe_int)
    (pss_cons (ps_for PassesOwn.never rfl (kk (K := K) (F := fun K => iEnumT K _) (P := PI _ _ _) (pi_enumT (by rfl) B.enumerate_ (pa_cons (pe_tup (pa_cons pe_int (pa_cons pe_int (pa_cons pe_int (pa_cons pe_int (pa_cons pe_int (pa_cons pe_int pa_nil))))))) pa_nil))) (kk (K := K) (F := fun K => gTup K 2 _) (P := PG _ _) (pg_tup rfl (pgs_cons (pg_name (i := 3) sc__law_rich.nd rfl (Or.inl rfl)) (pgs_cons (pg_name (i := 4) sc__law_rich.nd rfl (Or.inl rfl)) pgs_nil))))
      (pss_cons (ps_set (i := 5) sc__law_rich.nd rfl (Or.inl rfl) (pe_op op_mod (pe_op op_mulX (pe_op op_add (pe_op op_mod (pe_callB call_abs (by rfl) B.abs_ (by decide +kernel) (pa_cons (pv 0) pa_nil)) (pv 4)) pe_int) (pe_op op_add (pe_op op_add (pe_op op_mulX pe_int (pv 1)) (pe_op op_mulX pe_int (pv 3))) pe_int)) (pv 4)))
      (pss_one (ps_set (i := 2) sc__law_rich.nd rfl (Or.inl rfl) (pe_op op_add (pe_op op_mulX (pv 2) (pv 4)) (pe_op op_mod (pe_op op_add (pe_op op_add (pe_op op_pow (pv 5) pe_int) (pe_op op_mulX pe_int (pv 5))) (pv 3)) (pv 4)))))))
    (pss_one (ps_ret (pv 2))))), ?_⟩)
  · obtain ⟨c, tn, rfl, _⟩ := h; rfl
  · obtain ⟨c, tn, rfl, ht, q⟩ := h
    refine ⟨sz, fun t ht2 => ⟨t, _, rfl, SqT.of upd_same, ?_⟩⟩
    have S1 := same_new ht2 (.tup [.int 2147483647, .int 2147483629, .int 2147483587, .int 2147483579, .int 2147483563, .int 2147483549])
    refine for_enumT (K := K) (a := t) (xs := [.int 2147483647, .int 2147483629, .int 2147483587, .int 2147483579, .int 2147483563, .int 2147483549]) (fun i σ H2 => ∃ (f : Int) (v3 v4 v5 : Option V), σ = [some (.int c), some (.int tn), some (.int f), v3, v4, v5] ∧ Same H H2 ∧ H2 t = some (.tup [.int 2147483647, .int 2147483629, .int 2147483587, .int 2147483579, .int 2147483563, .int 2147483549]) ∧ 0 ≤ f ∧ f < 2 ^ (32 * i + 1)) ⟨1, none, none, none, rfl, S1, upd_same, by decide, by decide⟩ (fun i σ H2 _ h => by obtain ⟨_, _, _, _, _, _, h2, _⟩ := h; exact SqT.of h2) ?_ ?_
    · rintro i y T σ H2 hi ⟨f, v3, v4, v5, rfl, S2, ht3, f0, f1⟩ hT
      obtain ⟨z, hz, z0, z1⟩ := primes6 i (by have := (List.getElem?_eq_some_iff.mp hi).1; exact this)
      rw [hz] at hi
      cases (Option.some.inj hi)
      have hi6 : i < 6 := (List.getElem?_eq_some_iff.mp hz).1
      have f2 : f < 2 ^ 200 := Int.lt_of_lt_of_le f1 ((by decide : ∀ i, i < 6 → (2 : Int) ^ (32 * i + 1) ≤ 2 ^ 200) i hi6)
      have m1 := Int.emod_nonneg (if c < 0 then -c else c) (by omega : z ≠ 0)
      have m2 := Int.emod_lt_of_pos (if c < 0 then -c else c) (by omega : 0 < z)
      have S3 := same_new hT (.tup [.int i, .int z])
      refine ⟨T, _, rfl, SqT.of upd_same, rfl, _, _, rfl, _, _, rfl, rfl, ?_⟩
      refine ⟨_, rfl, _, rfl, _, rfl, _, _, rfl, rfl, by omega, _, _, rfl, rfl, ?_⟩
      refine ⟨_, rfl, _, _, rfl, rfl, mulx 3 20 (by decide) (by omega), _, rfl, _, _, rfl, rfl, mulx 20 3 (by decide) (by omega), _, _, rfl, rfl, _, _, rfl, rfl, _, _, rfl, rfl, mulx 33 30 (by omega) (by omega), _, rfl, _, _, rfl, rfl, by omega, ?_⟩
      have g1 := Int.emod_nonneg (((if c < 0 then -c else c) % z + 1) * (7 * (tn : Int) + 1000003 * (i : Int) + 68)) (by omega : z ≠ 0)
      have g2 := Int.emod_lt_of_pos (((if c < 0 then -c else c) % z + 1) * (7 * (tn : Int) + 1000003 * (i : Int) + 68)) (by omega : 0 < z)
      obtain ⟨sd, hsd⟩ : ∃ sd : Int, sd = (((if c < 0 then -c else c) % z + 1) * (7 * (tn : Int) + 1000003 * (i : Int) + 68)) % z := ⟨_, rfl⟩
      rw [← hsd] at g1 g2
      refine ⟨_, rfl, _, rfl, _, _, rfl, rfl, mulx 200 32 (by omega) (by omega), _, rfl, _, _, rfl, rfl, ⟨by decide, by decide, by omega⟩, _, rfl, _, _, rfl, rfl, mulx 16 32 (by decide) (by omega), _, _, rfl, rfl, _, rfl, _, _, rfl, rfl, _, rfl, _, _, rfl, rfl, by omega, _, _, rfl, rfl, ?_⟩
      have e1 := Int.emod_nonneg (sd ^ Int.toNat 5 + 40693 * sd + (i : Int)) (by omega : z ≠ 0)
      have e2 := Int.emod_lt_of_pos (sd ^ Int.toNat 5 + 40693 * sd + (i : Int)) (by omega : 0 < z)
      have e3 : 0 ≤ f * z := Int.mul_nonneg f0 (by omega)
      have e4 : f * z ≤ f * 2147483647 := Int.mul_le_mul_of_nonneg_left z1 f0
      have e5 : (2 : Int) ^ (32 * (i + 1) + 1) = 2 ^ (32 * i + 1) * 2 ^ 32 := by rw [← Int.pow_add]; exact congrArg (fun n : Nat => (2 : Int) ^ n) (by omega)
      rw [hsd] at e1 e2
      refine ⟨_, _, _, _, rfl, S2.trans S3, S3 _ _ ht3, by omega, ?_⟩
      rw [e5]
      omega
    · rintro σ H2 ⟨f, v3, v4, v5, rfl, S2, ht3, f0, f1⟩
      exact ⟨_, rfl, q f _ S2 f0⟩
def PurseAt (H : Hp) (p : Addr) (cap : Nat) : Prop := ∃ (a c : Int) (tn : Nat), H p = some (.lst [.int a, .int c, .int tn]) ∧ 0 ≤ a ∧ tn ≤ cap
theorem PurseAt.same {H H' : Hp} {p : Addr} {n : Nat} (e : Same H H') (h : PurseAt H p n) : PurseAt H' p n := by
  obtain ⟨a, c, t, h1, h2⟩ := h; exact ⟨a, c, t, e _ _ h1, h2⟩
theorem PurseAt.upd {H : Hp} {p D : Addr} {o : HO} {n : Nat} (e : p ≠ D) (h : PurseAt H p n) : PurseAt (L2.upd H D o) p n := by
  obtain ⟨a, c, t, h1, h2⟩ := h; exact ⟨a, c, t, by rw [upd_ne e]; exact h1, h2⟩
theorem purse_ne {H : Hp} {p a : Addr} {n : Nat} (h : PurseAt H p n) (m : H a = none) : a ≠ p := fun z => by obtain ⟨_, _, _, h1, _⟩ := h; rw [← z, m] at h1; cases h1
def spPurse (K : PySem.W.Frag) : Sp := fun vs H Q _ => ∃ (a : Addr) (ns : List Int) (k : Nat), vs = [.ref a, .int k] ∧ SqL K H a (ns.map V.int) ∧ k ≤ 60 ∧ ∀ p H', H p = none → Same H H' → PurseAt H' p 60 → Q (.ref p) H'
theorem k__law_purse (D : Df K mg "_law_purse" s__law_purse ["_law_script", "_law_k"]) : Dn P w K mg base 1 "_law_purse" ["_law_script", "_law_k"] (spPurse K) := by
  refine D.ok fun f fd F => okG0 F sc__law_purse (fun vs H Q E h => ?_) (fun cdv A outer s H vs Q E hr h => ⟨_, (pss_cons (ps_set (i := 2) sc__law_purse.nd rfl (Or.inl rfl) (pe_ifExp (pt_cmpR op_lt (pv 1) (pe_callB (lenK (K := K)) (by rfl) B.len_ (by decide +kernel) (pa_cons (pv 0) pa_nil)) (nomark _)) (pe_ix (kk (K := K) (F := rIxL) (P := IxR _) ix_list) (pv 0) (pv 1) (fun _ _ => rfl)) pe_int))
    (pss_one (ps_ret (pe_lst (pa_cons (pe_callB (call_max2 rfl) (by rfl) B.max_ (by decide +kernel) (pa_cons pe_int (pa_cons (pe_op op_sub (pv 2) (pe_op op_pow pe_int pe_int)) pa_nil))) (pa_cons (pv 2) (pa_cons (pv 1) pa_nil))))))), ?_⟩)
  · obtain ⟨a, ns, k, rfl, _⟩ := h; rfl
  · obtain ⟨a, ns, k, rfl, hs, hk, q⟩ := h
    refine ⟨_, rfl, _, rfl, a, _, rfl, .inl hs, _, _, rfl, rfl, _, rfl, ?_⟩
    refine ifE (fun v H' => H' = H ∧ ∃ c : Int, v = .int c) ?_ (fun c Q' q' => ?_) (fun c Q' q' => q' _ _ ⟨rfl, 0, rfl⟩)
    · rintro _ _ ⟨rfl, c, rfl⟩
      refine ⟨_, rfl, _, _, rfl, rfl, ⟨by decide, by decide, by decide⟩, _, _, rfl, rfl, _, _, rfl, _, rfl, _, rfl, sz, fun p hp => ?_⟩
      refine q p _ hp (same_new hp _) ⟨_, _, _, upd_same, ?_, hk⟩
      split <;> omega
    · have c' : (k : Int) < ((ns.map V.int).length : Nat) := of_decide_eq_true c
      have hk2 : k < ns.length := by rw [List.length_map] at c'; omega
      refine ⟨_, rfl, _, rfl, a, _, _, _, rfl, rfl, hs, at_of (j := k) rfl (by rw [List.getElem?_map, List.getElem?_eq_getElem hk2] <;> rfl), ?_⟩
      exact q' _ _ ⟨rfl, _, rfl⟩
def spTakeP (K : PySem.W.Frag) : Sp := fun vs H Q _ => ∃ (p : Addr) (m : Int) (cap : Nat), vs = [.ref p, .int m] ∧ PurseAt H p cap ∧ cap ≤ 90000 ∧ 1 ≤ m ∧ m < 2 ^ 200 ∧ ∀ (d : Int) H', 0 ≤ d → d < m → But p H H' → PurseAt H' p (cap + 64) → Q (.int d) H'
theorem k__law_take (D : Df K mg "_law_take" s__law_take ["_law_purse_here", "_law_many"]) (D__law_rich : Dn P w K mg base 1 "_law_rich" ["_law_cell", "_law_turn"] (spRich K)) : Dn P w K mg base 2 "_law_take" ["_law_purse_here", "_law_many"] (spTakeP K) := by
  refine D.ok fun f fd F => okG0 F sc__law_take (fun vs H Q E h => ?_) (fun cdv A outer s H vs Q E hr h => ⟨_, (pss_cons (ps_if (pt_cmpR op_eq (pe_ix (kk (K := K) (F := rIxL) (P := IxR _) ix_list) (pv 0) pe_int (fun _ _ => rfl)) pe_int (nomark _))
      (pss_cons (ps_asg (pe_cD D__law_rich (hr.less (by decide)) rfl (pa_cons (pe_ix (kk (K := K) (F := rIxL) (P := IxR _) ix_list) (pv 0) pe_int (fun _ _ => rfl)) (pa_cons (pe_ix (kk (K := K) (F := rIxL) (P := IxR _) ix_list) (pv 0) pe_int (fun _ _ => rfl)) pa_nil))) (pg_sub (pv 0) pe_int set_list))
      (pss_one (ps_asg (pe_op op_add (pe_ix (kk (K := K) (F := rIxL) (P := IxR _) ix_list) (pv 0) pe_int (fun _ _ => rfl)) pe_int) (pg_sub (pv 0) pe_int set_list))))
      pss_nil)
    (pss_cons (ps_set (i := 2) sc__law_take.nd rfl (Or.inl rfl) (pe_op op_mod (pe_ix (kk (K := K) (F := rIxL) (P := IxR _) ix_list) (pv 0) pe_int (fun _ _ => rfl)) (pv 1)))
    (pss_cons (ps_asg (pe_op op_fdivW (pe_ix (kk (K := K) (F := rIxL) (P := IxR _) ix_list) (pv 0) pe_int (fun _ _ => rfl)) (pv 1)) (pg_sub (pv 0) pe_int set_list))
    (pss_one (ps_ret (pv 2)))))), ?_⟩)
  · obtain ⟨p, m, cap, rfl, _⟩ := h; rfl
  · obtain ⟨p, m, cap, rfl, ⟨a, c, tn, hp, ha, ht⟩, hcap, hm, hm2, q⟩ := h
    have key : ∀ (a : Int) (tn : Nat) (H2 : Hp), But p H H2 → H2 p = some (.lst [.int a, .int c, .int tn]) → 0 ≤ a → tn ≤ cap + 64 → H2 p = some (.lst [.int a, .int c, .int tn]) ∧ PurseAt (upd H2 p (.lst [.int (a / m), .int c, .int tn])) p (cap + 64) ∧ But p H (upd H2 p (.lst [.int (a / m), .int c, .int tn])) ∧ 0 ≤ a % m ∧ a % m < m := by
      intro a tn H2 b h1 h2 h3
      refine ⟨h1, ⟨_, _, _, upd_same, Int.ediv_nonneg h2 (by omega), h3⟩, b.trans But.upd, Int.emod_nonneg _ (by omega), Int.emod_lt_of_pos _ (by omega)⟩
    refine ⟨_, rfl, p, _, _, _, rfl, rfl, SqL.of hp, at_of (j := 0) rfl rfl, rfl, _, rfl, ite2 (fun e => ?_) (fun e => ?_)⟩
    · refine ⟨_, rfl, p, _, _, _, rfl, rfl, SqL.of hp, at_of (j := 1) rfl rfl, _, rfl, p, _, _, _, rfl, rfl, SqL.of hp, at_of (j := 2) rfl rfl, c, tn, rfl, by omega, fun n H1 S1 n0 => ?_⟩
      have hp1 := S1 _ _ hp
      refine ⟨_, rfl, p, _, _, _, rfl, rfl, hp1, rfl, ?_⟩
      refine ⟨_, rfl, p, _, _, _, rfl, rfl, SqL.of upd_same, at_of (j := 2) rfl rfl, _, _, rfl, rfl, ?_⟩
      refine ⟨_, rfl, p, _, _, _, rfl, rfl, upd_same, rfl, ?_⟩
      obtain ⟨k1, k2, k3, k4, k5⟩ := key n (tn + 64) _ (((same_but S1).trans But.upd).trans But.upd) upd_same n0 (by omega)
      refine ⟨_, rfl, p, _, _, _, rfl, rfl, SqL.of k1, at_of (j := 0) rfl rfl, _, rfl, _, _, rfl, rfl, by omega, ?_⟩
      refine ⟨_, rfl, p, _, _, _, rfl, rfl, SqL.of k1, at_of (j := 0) rfl rfl, _, rfl, _, _, rfl, rfl, wide_div (b := 200) (by omega) (by omega) (by decide) (by decide), ?_⟩
      refine ⟨_, rfl, p, _, _, _, rfl, rfl, k1, rfl, _, rfl, ?_⟩
      exact q _ _ k4 k5 k3 k2
    · obtain ⟨k1, k2, k3, k4, k5⟩ := key a tn H (same_but (Same.refl H)) hp ha (by omega)
      refine ⟨_, rfl, p, _, _, _, rfl, rfl, SqL.of k1, at_of (j := 0) rfl rfl, _, rfl, _, _, rfl, rfl, by omega, ?_⟩
      refine ⟨_, rfl, p, _, _, _, rfl, rfl, SqL.of k1, at_of (j := 0) rfl rfl, _, rfl, _, _, rfl, rfl, wide_div (b := 200) (by omega) (by omega) (by decide) (by decide), ?_⟩
      refine ⟨_, rfl, p, _, _, _, rfl, rfl, k1, rfl, _, rfl, ?_⟩
      exact q _ _ k4 k5 k3 k2
/-! SPLIT -/
/-- the stepper stops here -/
structure Kept (p : Prop) : Prop where
  ex : p
local macro_rules | `(tactic| walk_at "own") => `(tactic| first | exact L2.ClsV.own _ | exact L2.Dp.int _)
/-! ENDM -/
def spMeetR (K : PySem.W.Frag) (C : Addr) : Sp := fun vs H Q E => ∃ (k a b : Nat), vs = [.int k, .int a, .int b] ∧ k ≤ 4 ∧ a < 2 ^ k ∧ b < 2 ^ k ∧ (a ≠ b → Q (.int (mt k (a ^^^ b))) H) ∧ (a = b → E (.ref C) none H)
theorem k_meeting (D : Df K mg "meeting" s_meeting ["k", "one", "other"]) (D_want_net : DnD P w K mg base 3 "want_net" ["k", "deepest"] [.int 4] spWantNet) (D_want_hand : Dn P w K mg base 3 "want_hand" ["k", "thing"] spWantLine) : Dx P w K mg base 4 "meeting" ["k", "one", "other"] (spMeetR K (cAt mg "NoHand")) := by
  refine D.okX fun f fd F => okGX F sc_meeting (fun vs H Q E h => ?_) (fun cdv A outer s H vs Q E hr h => ⟨_, (pss_cons (ps_expr (pe_cDd D_want_net (hr.less (by decide)) rfl (pa_cons (pv 0) pa_nil)))
    (pss_cons (ps_expr (pe_cD D_want_hand (hr.less (by decide)) rfl (pa_cons (pv 0) (pa_cons (pv 1) pa_nil))))
    (pss_cons (ps_expr (pe_cD D_want_hand (hr.less (by decide)) rfl (pa_cons (pv 0) (pa_cons (pv 2) pa_nil))))
    (pss_cons (ps_if (pt_cmpR op_eq (pv 1) (pv 2) (nomark _))
      (pss_one (ps_raise rfl (takes_of rfl rfl rfl rfl) (pmk_own PySem.F.excBase_ValueError B.NoHand_.ex B.NoHand_.mg_ B.NoHand_.kp (raises_own B.NoHand_.bs B.NoHand_.tp) rfl)))
      pss_nil)
    (pss_cons (ps_set (i := 3) sc_meeting.nd rfl (Or.inl rfl) (pe_op op_xor (pv 1) (pv 2)))
    (pss_one (ps_ret (pe_op op_sub (pe_op op_add (pv 0) pe_int) (pe_bits (pe_op op_and (pv 3) (pe_op op_sub pe_int (pv 3)))))))))))), ?_⟩)
  · obtain ⟨k, a, b, rfl, _⟩ := h; rfl
  · obtain ⟨k, a, b, rfl, hk, ha, hb, q1, q2⟩ := h
    have e1 := bx (by omega : k < 5) ha hb
    try walk_at "go"
    refine ite2 (fun c => ?_) (fun c => ?_)
    · exact q2 (by have := V.int.inj (of_decide_eq_true c); omega)
    have hn : a ≠ b := fun z => c (by rw [z]; exact decide_eq_true rfl)
    try walk_at "go"
    rw [e1]
    exact q1 hn
def spPartR (K : PySem.W.Frag) (C : Addr) : Sp := fun vs H Q E => ∃ (k a b : Nat), vs = [.int k, .int a, .int b] ∧ k ≤ 4 ∧ a < 2 ^ k ∧ b < 2 ^ k ∧ (a ≠ b → Q (.int (pt k (a ^^^ b))) H) ∧ (a = b → E (.ref C) none H)
theorem k_parting (D : Df K mg "parting" s_parting ["k", "one", "other"]) (D_want_net : DnD P w K mg base 3 "want_net" ["k", "deepest"] [.int 4] spWantNet) (D_want_side : Dn P w K mg base 3 "want_side" ["k", "thing"] spWantLine) : Dx P w K mg base 4 "parting" ["k", "one", "other"] (spPartR K (cAt mg "NoSide")) := by
  refine D.okX fun f fd F => okGX F sc_parting (fun vs H Q E h => ?_) (fun cdv A outer s H vs Q E hr h => ⟨_, (pss_cons (ps_expr (pe_cDd D_want_net (hr.less (by decide)) rfl (pa_cons (pv 0) pa_nil)))
    (pss_cons (ps_expr (pe_cD D_want_side (hr.less (by decide)) rfl (pa_cons (pv 0) (pa_cons (pv 1) pa_nil))))
    (pss_cons (ps_expr (pe_cD D_want_side (hr.less (by decide)) rfl (pa_cons (pv 0) (pa_cons (pv 2) pa_nil))))
    (pss_cons (ps_if (pt_cmpR op_eq (pv 1) (pv 2) (nomark _))
      (pss_one (ps_raise rfl (takes_of rfl rfl rfl rfl) (pmk_own PySem.F.excBase_ValueError B.NoSide_.ex B.NoSide_.mg_ B.NoSide_.kp (raises_own B.NoSide_.bs B.NoSide_.tp) rfl)))
      pss_nil)
    (pss_one (ps_ret (pe_op op_sub (pe_op op_add (pv 0) pe_int) (pe_bits (pe_op op_xor (pv 1) (pv 2)))))))))), ?_⟩)
  · obtain ⟨k, a, b, rfl, _⟩ := h; rfl
  · obtain ⟨k, a, b, rfl, hk, ha, hb, q1, q2⟩ := h
    have e1 := bx (by omega : k < 5) ha hb
    try walk_at "go"
    refine ite2 (fun c => ?_) (fun c => ?_)
    · exact q2 (by have := V.int.inj (of_decide_eq_true c); omega)
    have hn : a ≠ b := fun z => c (by rw [z]; exact decide_eq_true rfl)
    try walk_at "go"
    rw [e1]
    exact q1 hn
def spStage : Sp := fun vs H Q _ => ∃ (k : Nat) (t : Int), vs = [.int k, .int t] ∧ 1 ≤ t ∧ t ≤ k ∧ Q (.bl true) H
theorem k__law_is_stage (D : Df K mg "_law_is_stage" s__law_is_stage ["_law_k", "_law_thing"]) : Dn P w K mg base 1 "_law_is_stage" ["_law_k", "_law_thing"] spStage := by
  refine D.ok fun f fd F => okG0 F sc__law_is_stage (fun vs H Q E h => ?_) (fun cdv A outer s H vs Q E hr h => ⟨_, (pss_one (ps_ret (pe_and (pe_callB (kk (K := K) (F := rIsi) (P := CallR _ _) call_isi) (by rfl) B.isinstance_ (by decide +kernel) (pa_cons (pv 1) (pa_cons (pe_bltn (v := .ty "int") (u := .type "int") (by rfl) B.int_ (by decide +kernel) rfl) pa_nil))) (pe_and (pe_not (pe_callB (kk (K := K) (F := rIsi) (P := CallR _ _) call_isi) (by rfl) B.isinstance_ (by decide +kernel) (pa_cons (pv 1) (pa_cons (pe_bltn (v := .ty "bool") (u := .type "bool") (by rfl) B.bool_ (by decide +kernel) rfl) pa_nil)))) (pe_one (pe_chain op_le op_le pe_int (pv 1) (pv 0))))))), ?_⟩)
  · obtain ⟨k, t, rfl, _⟩ := h; rfl
  · obtain ⟨k, t, rfl, h1, h2, q⟩ := h
    try walk_at "go"
    refine ifT (decide_eq_true h1) ?_
    try walk_at "go"
    have e : (fun i j : Int => V.bl (decide (i ≤ j))) t (k : Int) = V.bl true := congrArg V.bl (decide_eq_true h2)
    rw [e]
    exact q
def spRef (K : PySem.W.Frag) (m p : Addr) : Sp := fun vs H Q _ => ∃ (f : Addr) (k a : Nat), vs = [.ref f, .int k, .int a] ∧ k ≤ 4 ∧ a < 2 ^ k ∧ ((f = m ∧ ∀ L H', Same H H' → H' L = some (.lst (([true, false, true, false, false, false] : List Bool).map V.bl)) → Q (.ref L) H') ∨ (f = p ∧ ∀ L H', Same H H' → H' L = some (.lst (([false, true, true, false, false, false] : List Bool).map V.bl)) → Q (.ref L) H'))
theorem k__law_refused (D : Df K mg "_law_refused" s__law_refused ["_law_deed", "_law_k", "_law_one"]) (D_meeting : Dx P w K mg base 4 "meeting" ["k", "one", "other"] (spMeetR K (cAt mg "NoHand"))) (D_parting : Dx P w K mg base 4 "parting" ["k", "one", "other"] (spPartR K (cAt mg "NoSide"))) : Dn P w K mg base 6 "_law_refused" ["_law_deed", "_law_k", "_law_one"] (spRef K (cAt mg "meeting") (cAt mg "parting")) := by
  refine D.ok fun f fd F => okG0 F sc__law_refused (fun vs H Q E h => ?_) (fun cdv A outer s H vs Q E hr h => ⟨_, (pss_cons (ps_try_as (i := 3) rfl rfl sc__law_refused.nd rfl rfl ⟨rfl, by decide, .inl B.AskError_.mg_⟩ takes0 (fun W pn xe tk po => (pss_one (ps_expr (pe_cvW (i := 0) D_meeting D_parting (hr.less (by decide)) (hr.less (by decide)) tk (pa_cons (pv 1) (pa_cons (pv 2) (pa_cons (pv 2) pa_nil)))))))
      (fun a oe cls d pn hz hf => (pss_cons (ps_set (i := 4) sc__law_refused.nd rfl (Or.inl rfl) (pe_lst (pa_cons (pe_callB (call_isX hz hf) (by rfl) B.isinstance_ (by decide +kernel) (pa_cons (pv 3) (pa_cons (pe_glob (v := .ref (cAt mg "NoNet")) (u := .ref (cAt mg "NoNet")) (by rfl) B.NoNet_.mg_ rfl) pa_nil))) (pa_cons (pe_callB (call_isX hz hf) (by rfl) B.isinstance_ (by decide +kernel) (pa_cons (pv 3) (pa_cons (pe_glob (v := .ref (cAt mg "NoNumber")) (u := .ref (cAt mg "NoNumber")) (by rfl) B.NoNumber_.mg_ rfl) pa_nil))) (pa_cons (pe_callB (call_isX hz hf) (by rfl) B.isinstance_ (by decide +kernel) (pa_cons (pv 3) (pa_cons (pe_glob (v := .ref (cAt mg "NoSettings")) (u := .ref (cAt mg "NoSettings")) (by rfl) B.NoSettings_.mg_ rfl) pa_nil))) pa_nil)))))
      (pss_one (ps_ret (pe_op op_cat (pe_lst (pa_cons (pe_callB (call_isX hz hf) (by rfl) B.isinstance_ (by decide +kernel) (pa_cons (pv 3) (pa_cons (pe_glob (v := .ref (cAt mg "NoHand")) (u := .ref (cAt mg "NoHand")) (by rfl) B.NoHand_.mg_ rfl) pa_nil))) (pa_cons (pe_callB (call_isX hz hf) (by rfl) B.isinstance_ (by decide +kernel) (pa_cons (pv 3) (pa_cons (pe_glob (v := .ref (cAt mg "NoSide")) (u := .ref (cAt mg "NoSide")) (by rfl) B.NoSide_.mg_ rfl) pa_nil))) (pa_cons (pe_callB (call_isX hz hf) (by rfl) B.isinstance_ (by decide +kernel) (pa_cons (pv 3) (pa_cons (pe_bltn (v := .ty "ValueError") (u := .type "ValueError") (by rfl) B.ValueError_ (by decide +kernel) rfl) pa_nil))) pa_nil)))) (pv 4)))))))
    (pss_one (ps_ret (pe_lst pa_nil)))), ?_⟩)
  · obtain ⟨f, k, a, rfl, _⟩ := h; rfl
  · obtain ⟨f, k, a, rfl, hk, ha, q⟩ := h
    have e1 : PySem.W.exmOne K (.ref (cAt mg "NoHand")) (.ref (cAt mg "AskError")) = some true := exm_of B.AskError_ B.NoHand_AskError_
    have e2 : PySem.W.exmOne K (.ref (cAt mg "NoSide")) (.ref (cAt mg "AskError")) = some true := exm_of B.AskError_ B.NoSide_AskError_
    rcases q with ⟨rfl, q⟩ | ⟨rfl, q⟩
    · try walk_at "go"
      refine .inl ⟨rfl, ?_⟩
      try walk_at "go"
      refine ⟨fun n => absurd rfl n, fun _ => ?_⟩
      refine ⟨true, e1, fun _ x hx => ?_, fun z => by cases z⟩
      have k_NoHand := kitO B.NoHand_ B.NoHand_NoHand_ B.NoHand_NoHand_
      have k_NoSide := kitO B.NoSide_ B.NoHand_NoHand_ B.NoHand_NoSide_
      have k_NoNet := kitO B.NoNet_ B.NoHand_NoHand_ B.NoHand_NoNet_
      have k_NoNumber := kitO B.NoNumber_ B.NoHand_NoHand_ B.NoHand_NoNumber_
      have k_NoSettings := kitO B.NoSettings_ B.NoHand_NoHand_ B.NoHand_NoSettings_
      have kv := kitVE B.NoHand_i
      have kc := B.NoHand_i.c
      try walk_at "go"
      intro L1 hL1
      generalize eH1 : upd _ L1 _ = H1
      have SH1 := newS eH1 hL1
      have oL1 := newO eH1
      try walk_at "go"
      intro L2 hL2
      generalize eH2 : upd _ L2 _ = H2
      have SH2 := newS eH2 hL2
      have oL2 := newO eH2
      have oL12 := SH2 _ _ oL1
      try walk_at "go"
      intro L3 hL3
      generalize eH3 : upd _ L3 _ = H3
      have SH3 := newS eH3 hL3
      have oL3 := newO eH3
      exact q _ _ (SH1.trans (SH2.trans SH3)) oL3
    · try walk_at "go"
      refine .inr ⟨rfl, ?_⟩
      try walk_at "go"
      refine ⟨fun n => absurd rfl n, fun _ => ?_⟩
      refine ⟨true, e2, fun _ x hx => ?_, fun z => by cases z⟩
      have k_NoHand := kitO B.NoHand_ B.NoSide_NoSide_ B.NoSide_NoHand_
      have k_NoSide := kitO B.NoSide_ B.NoSide_NoSide_ B.NoSide_NoSide_
      have k_NoNet := kitO B.NoNet_ B.NoSide_NoSide_ B.NoSide_NoNet_
      have k_NoNumber := kitO B.NoNumber_ B.NoSide_NoSide_ B.NoSide_NoNumber_
      have k_NoSettings := kitO B.NoSettings_ B.NoSide_NoSide_ B.NoSide_NoSettings_
      have kv := kitVE B.NoSide_i
      have kc := B.NoSide_i.c
      try walk_at "go"
      intro L1 hL1
      generalize eH1 : upd _ L1 _ = H1
      have SH1 := newS eH1 hL1
      have oL1 := newO eH1
      try walk_at "go"
      intro L2 hL2
      generalize eH2 : upd _ L2 _ = H2
      have SH2 := newS eH2 hL2
      have oL2 := newO eH2
      have oL12 := SH2 _ _ oL1
      try walk_at "go"
      intro L3 hL3
      generalize eH3 : upd _ L3 _ = H3
      have SH3 := newS eH3 hL3
      have oL3 := newO eH3
      exact q _ _ (SH1.trans (SH2.trans SH3)) oL3
def spAreT (K : PySem.W.Frag) : Sp := fun vs H Q _ => ∃ (k t : Nat) (A C : Addr) (xs ys : List Int) (m : Bool), vs = [.int k, .int t, .ref A, .ref C, .bl m] ∧ k ≤ 4 ∧ t ≤ k + 1 ∧ H A = some (.tup (xs.map V.int)) ∧ H C = some (.tup (ys.map V.int)) ∧ xs.length = k + 1 ∧ ys.length = k + 1 ∧ (∀ l x y, xs[l]? = some x → ys[l]? = some y → decide (x = y) = (m == decide (t ≤ l))) ∧ ∀ H', Same H H' → Q (.bl true) H'
theorem k__law_are_told (D : Df K mg "_law_are_told" s__law_are_told ["_law_k", "_law_told", "_law_one", "_law_other", "_law_is_meeting"]) : Dn P w K mg base 1 "_law_are_told" ["_law_k", "_law_told", "_law_one", "_law_other", "_law_is_meeting"] (spAreT K) := by
  refine D.ok fun f fd F => okG0 F sc__law_are_told (fun vs H Q E h => ?_) (fun cdv A outer s H vs Q E hr h => ⟨_, (pss_cons (ps_set (i := 5) sc__law_are_told.nd rfl (Or.inl rfl) (pe_op op_cat (pe_op op_rep (pe_lst (pa_cons (pe_not (pv 4)) pa_nil)) (pv 1)) (pe_op op_rep (pe_lst (pa_cons (pv 4) pa_nil)) (pe_op op_sub (pe_op op_add (pv 0) pe_int) (pv 1)))))
    (pss_one (ps_ret (pe_cmpR (kk (K := K) (F := rEqD) (P := OpR _ _) (op_eqD hr.units)) (pe_lc (own := [("_law_here", 6), ("_law_there", 7)]) (tt := tYes) rfl sc__law_are_told.nd (kk (K := K) (F := fun K => RZ.iZipA K _) (P := PI _ _ _) (RZ.pi_zipA (by rfl) B.zip_ (pa_cons (pv 2) (pa_cons (pv 3) pa_nil)))) (blkOk_by (own := [("_law_here", 6), ("_law_there", 7)]) (N := ["_law_k", "_law_told", "_law_one", "_law_other", "_law_is_meeting", "_law_ahead", "_law_here", "_law_there"]) (sc := defScope s__law_are_told) (by decide +kernel)) (fun _ _ _ _ _ => (kk (K := K) (F := fun K => gTup K 2 _) (P := PG _ _) (pg_tup rfl (pgs_cons (pg_name (i := 6) sc__law_are_told.nd rfl (Or.inl rfl)) (pgs_cons (pg_name (i := 7) sc__law_are_told.nd rfl (Or.inl rfl)) pgs_nil))))) (fun _ _ _ _ _ => pts_nil) (fun _ _ _ _ _ => (pe_cmpR op_eq (pv 6) (pv 7) (nomark _)))) (pv 5) (nomark _))))), ?_⟩)
  · obtain ⟨k, t, A, C, xs, ys, m, rfl, _⟩ := h; rfl
  · obtain ⟨k, t, A, C, xs, ys, m, rfl, hk, ht, hA, hC, lx, ly, hl, q⟩ := h
    try walk_at "go"
    intro A1 hA1
    generalize eH1 : upd _ A1 _ = H1
    have SH1 := newS eH1 hA1
    have oA1 := newO eH1
    try walk_at "go"
    intro R1 hR1
    generalize eH2 : upd H1 R1 _ = H2
    have SH2 : Same H1 H2 := eH2 ▸ same_new hR1 _
    have oR1 : H2 R1 = some (.lst (List.replicate t (V.bl (!m)))) := by rw [← eH2, upd_same, Int.toNat_natCast, List.flatten_replicate_singleton]
    try walk_at "go"
    intro A2 hA2
    generalize eH3 : upd _ A2 _ = H3
    have SH3 := newS eH3 hA2
    have oA2 := newO eH3
    have oR13 := SH3 _ _ oR1
    try walk_at "go"
    intro R2 hR2
    generalize eH4 : upd H3 R2 _ = H4
    have SH4 : Same H3 H4 := eH4 ▸ same_new hR2 _
    have oR2 : H4 R2 = some (.lst (List.replicate (k + 1 - t) (V.bl m))) := by
      rw [← eH4, upd_same, List.flatten_replicate_singleton, show ((k : Int) + 1 - (t : Int)).toNat = k + 1 - t by omega]
    have oR14 := SH4 _ _ oR13
    have lr1 : (List.replicate t (V.bl (!m))).length ≤ 10 := by rw [List.length_replicate]; omega
    have lr2 : (List.replicate (k + 1 - t) (V.bl m)).length ≤ 10 := by rw [List.length_replicate]; omega
    have slz : 3000000 ≤ sizeLine := by decide
    try walk_at "go"
    intro F hF
    generalize eH5 : upd _ F _ = H5
    have SH5 := newS eH5 hF
    have oF := newO eH5
    have oF5 : H5 F = some (.lst ((toldB k t m).map V.bl)) := by rw [oF, ← toldB_is m ht, List.map_append, List.map_replicate, List.map_replicate]
    have S5 := SH1.trans (SH2.trans (SH3.trans (SH4.trans SH5)))
    have hA5 := S5 _ _ hA
    have hC5 := S5 _ _ hC
    have lt : (toldB k t m).length = k + 1 := by unfold toldB; rw [List.length_map, List.length_range]
    try walk_at "go"
    intro D hD
    refine lc_zipT (K := K) (a := A) (b := C) (xs := xs.map V.int) (ys := ys.map V.int) (by rw [List.length_map, List.length_map]; omega) (fun i H' => Kept (Same H5 H' ∧ H' D = some (.lst (((toldB k t m).take i).map V.bl)))) ⟨same_new hD _, upd_same⟩ (fun i H' _ h => ⟨SqT.of (h.ex.1 _ _ hA5), SqT.of (h.ex.1 _ _ hC5)⟩) ?_ ?_
    · rintro i x y T H6 hx hy ⟨S6, hD6⟩ hT
      obtain ⟨u, rfl, hu⟩ := at_map hx
      obtain ⟨v, rfl, hv⟩ := at_map hy
      generalize eH7 : upd H6 T _ = H7
      have SH7 : Same H6 H7 := eH7 ▸ same_new hT _
      have oT : H7 T = some (.tup [.int u, .int v]) := eH7 ▸ upd_same
      have hD7 := SH7 _ _ hD6
      have ln : (((toldB k t m).take i).map V.bl).length ≤ 10 := by rw [List.length_map, List.length_take]; omega
      have il : i < k + 1 := by have := (List.getElem?_eq_some_iff.mp hu).1; omega
      have ti : (toldB k t m)[i]? = some (decide (u = v)) := by
        unfold toldB
        rw [List.getElem?_map, List.getElem?_range il, hl i u v hu hv] <;> rfl
      have ed : decide (V.int u = V.int v) = decide (u = v) := by
        by_cases c : u = v
        · rw [c, decide_eq_true rfl, decide_eq_true rfl]
        · rw [decide_eq_false c, decide_eq_false fun z => c (V.int.inj z)]
      try walk_at "go"
      rw [ed]
      exact ⟨⟨but_same hD (S6.trans SH7) But.upd, by rw [upd_same, List.take_succ, ti, List.map_append] <;> rfl⟩⟩
    · rintro H6 ⟨S6, hD6⟩
      rw [List.length_map, lx, ← lt, List.take_length] at hD6
      have d1 := bools_dp (K := K) hD6
      have d2 := bools_dp (K := K) (S6 _ _ oF5)
      have sh := bools_shaped (toldB k t m)
      try walk_at "go"
      rw [bools_refl]
      exact q _ (S5.trans S6)
/-! SPLIT -/
def spMeetL (K : PySem.W.Frag) : Sp := fun vs H Q _ => ∃ (k : Nat) (W : Addr) (kvs : List (List Key × V)), vs = [.int k, .ref W] ∧ k ≤ 4 ∧ H W = some (.dT kvs) ∧ WysAt H kvs k (fun h g => h < 2 ^ k ∧ g < 2 ^ k) ∧ ∀ H', Same H H' → Q (.bl true) H'
theorem k__law_meet (D : Df K mg "_law_meet" s__law_meet ["_law_k", "_law_ways"]) (D_meeting : Dx P w K mg base 4 "meeting" ["k", "one", "other"] (spMeetR K (cAt mg "NoHand"))) (D__law_is_stage : Dn P w K mg base 1 "_law_is_stage" ["_law_k", "_law_thing"] spStage) (D__law_are_told : Dn P w K mg base 1 "_law_are_told" ["_law_k", "_law_told", "_law_one", "_law_other", "_law_is_meeting"] (spAreT K)) : Dn P w K mg base 7 "_law_meet" ["_law_k", "_law_ways"] (spMeetL K) := by
  refine D.ok fun f fd F => okG0 F sc__law_meet (fun vs H Q E h => ?_) (fun cdv A outer s H vs Q E hr h => ⟨_, (pss_cons (ps_for PassesOwn.never rfl (pi_range1 (by rfl) B.range_ (pa_cons (pe_op op_shlW pe_int (pv 0)) pa_nil)) (pg_name (i := 2) sc__law_meet.nd rfl (Or.inl rfl))
      (pss_one (ps_for PassesOwn.never rfl (pi_range1 (by rfl) B.range_ (pa_cons (pe_op op_shlW pe_int (pv 0)) pa_nil)) (pg_name (i := 3) sc__law_meet.nd rfl (Or.inl rfl))
       (pss_one (ps_if (pt_cmpR op_ne (pv 2) (pv 3) (nomark _))
        (pss_cons (ps_set (i := 4) sc__law_meet.nd rfl (Or.inl rfl) (pe_cXn D_meeting (hr.less (by decide)) rfl (pa_cons (pv 0) (pa_cons (pv 2) (pa_cons (pv 3) pa_nil)))))
        (pss_cons (ps_if (pt_not (pt_val (pe_cD D__law_is_stage (hr.less (by decide)) rfl (pa_cons (pv 0) (pa_cons (pv 4) pa_nil)))))
          (pss_one (ps_ret pe_bl))
          pss_nil)
        (pss_one (ps_for PassesOwn.never rfl (pi_range1 (by rfl) B.range_ (pa_cons (pe_op op_shlW pe_int (pv 0)) pa_nil)) (pg_name (i := 5) sc__law_meet.nd rfl (Or.inl rfl))
         (pss_one (ps_if (pt_not (pt_val (pe_cD D__law_are_told (hr.less (by decide)) rfl (pa_cons (pv 0) (pa_cons (pv 4) (pa_cons (pe_dget hr.u1 (pv 1) (pe_tup (pa_cons (pv 2) (pa_cons (pv 5) pa_nil))) (fun _ _ => rfl)) (pa_cons (pe_dget hr.u1 (pv 1) (pe_tup (pa_cons (pv 3) (pa_cons (pv 5) pa_nil))) (fun _ _ => rfl)) (pa_cons pe_bl pa_nil))))))))
          (pss_one (ps_ret pe_bl))
          pss_nil))))))
        pss_nil)))))
    (pss_one (ps_ret pe_bl))), ?_⟩)
  · obtain ⟨k, W, kvs, rfl, _⟩ := h; rfl
  · obtain ⟨k, W, kvs, rfl, hk, hW, hy, q⟩ := h
    have e16 : 2 ^ k ≤ 16 := (Nat.pow_le_pow_right (by decide) hk : 2 ^ k ≤ 2 ^ 4)
    have eN : (1 * 2 ^ ((k : Int)).toNat : Int) = ((2 ^ k : Nat) : Int) := by rw [Int.toNat_natCast, Int.one_mul]; push_cast; rfl
    have eT : (1 * 2 ^ ((k : Int)).toNat : Int).toNat = 2 ^ k := by rw [eN, Int.toNat_natCast]
    have csh : CShl 1 (k : Int) := shl_ok (by omega)
    try walk_at "go"
    refine for_range (lo := 0) (n := (1 * 2 ^ ((k : Int)).toNat : Int).toNat) (fun i σ H' => ∃ s2 s3 s4 s5 : Option V, σ = [some (.int k), some (.ref W), s2, s3, s4, s5] ∧ Same H H') ⟨_, _, _, _, rfl, Same.refl _⟩ ?_ ?_
    · rintro i σ H1 hi ⟨s2, s3, s4, s5, rfl, S1⟩
      rw [eT] at hi
      rw [Int.zero_add]
      try walk_at "go"
      refine for_range (lo := 0) (n := (1 * 2 ^ ((k : Int)).toNat : Int).toNat) (fun j σ H' => ∃ s3 s4 s5 : Option V, σ = [some (.int k), some (.ref W), some (.int (i : Int)), s3, s4, s5] ∧ Same H H') ⟨_, _, _, rfl, S1⟩ ?_ ?_
      · rintro j σ H2 hj ⟨s3, s4, s5, rfl, S2⟩
        rw [eT] at hj
        rw [Int.zero_add]
        by_cases ne : i = j
        · subst ne
          try walk_at "go"
          refine ifF (dec_ne rfl) ?_
          exact ⟨_, _, _, rfl, S2⟩
        · try walk_at "go"
          refine ifT (by rw [decide_eq_false fun z => ne (by injection z with z; omega)] <;> rfl) ?_
          try walk_at "go"
          refine ⟨fun _ => ?_, fun z => absurd z ne⟩
          obtain ⟨t, et, t1, t2⟩ : ∃ t : Nat, mt k (i ^^^ j) = (t : Int) ∧ 1 ≤ t ∧ t ≤ k := by
            have h2 := (mt_in k (by omega) i hi j hj).resolve_left ne
            exact ⟨(mt k (i ^^^ j)).toNat, by omega, by omega, by omega⟩
          rw [et]
          try walk_at "go"
          refine for_range (lo := 0) (n := (1 * 2 ^ ((k : Int)).toNat : Int).toNat) (fun g σ H' => ∃ s5 : Option V, σ = [some (.int k), some (.ref W), some (.int (i : Int)), some (.int (j : Int)), some (.int (t : Int)), s5] ∧ Same H H') ⟨_, rfl, S2⟩ ?_ ?_
          · rintro g σ H3 hg ⟨s5, rfl, S3⟩
            rw [eT] at hg
            rw [Int.zero_add]
            obtain ⟨A, v1, hA⟩ := hy i g ⟨hi, hg⟩
            obtain ⟨C, v2, hC⟩ := hy j g ⟨hj, hg⟩
            try walk_at "go"
            intro U1 hU1
            generalize eH4 : upd _ U1 _ = H4
            have SH4 := newS eH4 hU1
            have oU1 := newO eH4
            have g1 := DGet.t (k := kP i g) ((S3.trans SH4) _ _ hW) (b := U1) oU1
            rw [v1] at g1
            try walk_at "go"
            intro U2 hU2
            generalize eH5 : upd _ U2 _ = H5
            have SH5 := newS eH5 hU2
            have oU2 := newO eH5
            have g2 := DGet.t (k := kP j g) ((S3.trans (SH4.trans SH5)) _ _ hW) (b := U2) oU2
            rw [v2] at g2
            have S35 := S3.trans (SH4.trans SH5)
            have hA5 := S35 _ _ hA
            have hC5 := S35 _ _ hC
            have lx : ((List.range (k + 1)).map (low k i g)).length = k + 1 := by rw [List.length_map, List.length_range]
            have ly : ((List.range (k + 1)).map (low k j g)).length = k + 1 := by rw [List.length_map, List.length_range]
            have hl : ∀ l x y, ((List.range (k + 1)).map (low k i g))[l]? = some x → ((List.range (k + 1)).map (low k j g))[l]? = some y → decide (x = y) = (true == decide (t ≤ l)) := fun l x y hx hy' => by
              have hl2 : l < k + 1 := by have := (List.getElem?_eq_some_iff.mp hx).1; rwa [lx] at this
              rw [List.getElem?_map, List.getElem?_range hl2] at hx hy'
              cases (Option.some.inj hx)
              cases (Option.some.inj hy')
              have e := (mt_low k (by omega) i hi j hj g hg l hl2).resolve_left ne
              rw [e, et]; show decide ((t : Int) ≤ (l : Int)) = (true == decide (t ≤ l)); rw [Bool.true_beq]; exact decide_eq_decide.mpr (by omega)
            try walk_at "go"
            intro H6 S6
            refine ⟨_, rfl, ifF rfl ?_⟩
            exact ⟨_, rfl, S35.trans S6⟩
          · rintro σ H3 ⟨s5, rfl, S3⟩
            exact ⟨_, _, _, rfl, S3⟩
      · rintro σ H2 ⟨s3, s4, s5, rfl, S2⟩
        exact ⟨_, _, _, _, rfl, S2⟩
    · rintro σ H1 ⟨s2, s3, s4, s5, rfl, S1⟩
      try walk_at "go"
      exact q _ S1
def spPartL (K : PySem.W.Frag) : Sp := fun vs H Q _ => ∃ (k : Nat) (W : Addr) (kvs : List (List Key × V)), vs = [.int k, .ref W] ∧ k ≤ 4 ∧ H W = some (.dT kvs) ∧ WysAt H kvs k (fun h g => h < 2 ^ k ∧ g < 2 ^ k) ∧ ∀ H', Same H H' → Q (.bl true) H'
theorem k__law_part (D : Df K mg "_law_part" s__law_part ["_law_k", "_law_ways"]) (D_parting : Dx P w K mg base 4 "parting" ["k", "one", "other"] (spPartR K (cAt mg "NoSide"))) (D__law_is_stage : Dn P w K mg base 1 "_law_is_stage" ["_law_k", "_law_thing"] spStage) (D__law_are_told : Dn P w K mg base 1 "_law_are_told" ["_law_k", "_law_told", "_law_one", "_law_other", "_law_is_meeting"] (spAreT K)) : Dn P w K mg base 7 "_law_part" ["_law_k", "_law_ways"] (spPartL K) := by
  refine D.ok fun f fd F => okG0 F sc__law_part (fun vs H Q E h => ?_) (fun cdv A outer s H vs Q E hr h => ⟨_, (pss_cons (ps_for PassesOwn.never rfl (pi_range1 (by rfl) B.range_ (pa_cons (pe_op op_shlW pe_int (pv 0)) pa_nil)) (pg_name (i := 2) sc__law_part.nd rfl (Or.inl rfl))
      (pss_one (ps_for PassesOwn.never rfl (pi_range1 (by rfl) B.range_ (pa_cons (pe_op op_shlW pe_int (pv 0)) pa_nil)) (pg_name (i := 3) sc__law_part.nd rfl (Or.inl rfl))
       (pss_one (ps_if (pt_cmpR op_ne (pv 2) (pv 3) (nomark _))
        (pss_cons (ps_set (i := 4) sc__law_part.nd rfl (Or.inl rfl) (pe_cXn D_parting (hr.less (by decide)) rfl (pa_cons (pv 0) (pa_cons (pv 2) (pa_cons (pv 3) pa_nil)))))
        (pss_cons (ps_if (pt_not (pt_val (pe_cD D__law_is_stage (hr.less (by decide)) rfl (pa_cons (pv 0) (pa_cons (pv 4) pa_nil)))))
          (pss_one (ps_ret pe_bl))
          pss_nil)
        (pss_one (ps_for PassesOwn.never rfl (pi_range1 (by rfl) B.range_ (pa_cons (pe_op op_shlW pe_int (pv 0)) pa_nil)) (pg_name (i := 5) sc__law_part.nd rfl (Or.inl rfl))
         (pss_one (ps_if (pt_not (pt_val (pe_cD D__law_are_told (hr.less (by decide)) rfl (pa_cons (pv 0) (pa_cons (pv 4) (pa_cons (pe_dget hr.u1 (pv 1) (pe_tup (pa_cons (pv 5) (pa_cons (pv 2) pa_nil))) (fun _ _ => rfl)) (pa_cons (pe_dget hr.u1 (pv 1) (pe_tup (pa_cons (pv 5) (pa_cons (pv 3) pa_nil))) (fun _ _ => rfl)) (pa_cons pe_bl pa_nil))))))))
          (pss_one (ps_ret pe_bl))
          pss_nil))))))
        pss_nil)))))
    (pss_one (ps_ret pe_bl))), ?_⟩)
  · obtain ⟨k, W, kvs, rfl, _⟩ := h; rfl
  · obtain ⟨k, W, kvs, rfl, hk, hW, hy, q⟩ := h
    have e16 : 2 ^ k ≤ 16 := (Nat.pow_le_pow_right (by decide) hk : 2 ^ k ≤ 2 ^ 4)
    have eN : (1 * 2 ^ ((k : Int)).toNat : Int) = ((2 ^ k : Nat) : Int) := by rw [Int.toNat_natCast, Int.one_mul]; push_cast; rfl
    have eT : (1 * 2 ^ ((k : Int)).toNat : Int).toNat = 2 ^ k := by rw [eN, Int.toNat_natCast]
    have csh : CShl 1 (k : Int) := shl_ok (by omega)
    try walk_at "go"
    refine for_range (lo := 0) (n := (1 * 2 ^ ((k : Int)).toNat : Int).toNat) (fun i σ H' => ∃ s2 s3 s4 s5 : Option V, σ = [some (.int k), some (.ref W), s2, s3, s4, s5] ∧ Same H H') ⟨_, _, _, _, rfl, Same.refl _⟩ ?_ ?_
    · rintro i σ H1 hi ⟨s2, s3, s4, s5, rfl, S1⟩
      rw [eT] at hi
      rw [Int.zero_add]
      try walk_at "go"
      refine for_range (lo := 0) (n := (1 * 2 ^ ((k : Int)).toNat : Int).toNat) (fun j σ H' => ∃ s3 s4 s5 : Option V, σ = [some (.int k), some (.ref W), some (.int (i : Int)), s3, s4, s5] ∧ Same H H') ⟨_, _, _, rfl, S1⟩ ?_ ?_
      · rintro j σ H2 hj ⟨s3, s4, s5, rfl, S2⟩
        rw [eT] at hj
        rw [Int.zero_add]
        by_cases ne : i = j
        · subst ne
          try walk_at "go"
          refine ifF (dec_ne rfl) ?_
          exact ⟨_, _, _, rfl, S2⟩
        · try walk_at "go"
          refine ifT (by rw [decide_eq_false fun z => ne (by injection z with z; omega)] <;> rfl) ?_
          try walk_at "go"
          refine ⟨fun _ => ?_, fun z => absurd z ne⟩
          obtain ⟨t, et, t1, t2⟩ : ∃ t : Nat, pt k (i ^^^ j) = (t : Int) ∧ 1 ≤ t ∧ t ≤ k := by
            have h2 := (pt_in k (by omega) i hi j hj).resolve_left ne
            exact ⟨(pt k (i ^^^ j)).toNat, by omega, by omega, by omega⟩
          rw [et]
          try walk_at "go"
          refine for_range (lo := 0) (n := (1 * 2 ^ ((k : Int)).toNat : Int).toNat) (fun g σ H' => ∃ s5 : Option V, σ = [some (.int k), some (.ref W), some (.int (i : Int)), some (.int (j : Int)), some (.int (t : Int)), s5] ∧ Same H H') ⟨_, rfl, S2⟩ ?_ ?_
          · rintro g σ H3 hg ⟨s5, rfl, S3⟩
            rw [eT] at hg
            rw [Int.zero_add]
            obtain ⟨A, v1, hA⟩ := hy g i ⟨hg, hi⟩
            obtain ⟨C, v2, hC⟩ := hy g j ⟨hg, hj⟩
            try walk_at "go"
            intro U1 hU1
            generalize eH4 : upd _ U1 _ = H4
            have SH4 := newS eH4 hU1
            have oU1 := newO eH4
            have g1 := DGet.t (k := kP g i) ((S3.trans SH4) _ _ hW) (b := U1) oU1
            rw [v1] at g1
            try walk_at "go"
            intro U2 hU2
            generalize eH5 : upd _ U2 _ = H5
            have SH5 := newS eH5 hU2
            have oU2 := newO eH5
            have g2 := DGet.t (k := kP g j) ((S3.trans (SH4.trans SH5)) _ _ hW) (b := U2) oU2
            rw [v2] at g2
            have S35 := S3.trans (SH4.trans SH5)
            have hA5 := S35 _ _ hA
            have hC5 := S35 _ _ hC
            have lx : ((List.range (k + 1)).map (low k g i)).length = k + 1 := by rw [List.length_map, List.length_range]
            have ly : ((List.range (k + 1)).map (low k g j)).length = k + 1 := by rw [List.length_map, List.length_range]
            have hl : ∀ l x y, ((List.range (k + 1)).map (low k g i))[l]? = some x → ((List.range (k + 1)).map (low k g j))[l]? = some y → decide (x = y) = (false == decide (t ≤ l)) := fun l x y hx hy' => by
              have hl2 : l < k + 1 := by have := (List.getElem?_eq_some_iff.mp hx).1; rwa [lx] at this
              rw [List.getElem?_map, List.getElem?_range hl2] at hx hy'
              cases (Option.some.inj hx)
              cases (Option.some.inj hy')
              have e := (pt_low k (by omega) i hi j hj g hg l hl2).resolve_left ne
              rw [e, et]; show (!decide ((t : Int) ≤ (l : Int))) = (false == decide (t ≤ l)); rw [Bool.false_beq]; exact congrArg (!·) (decide_eq_decide.mpr (by omega))
            try walk_at "go"
            intro H6 S6
            refine ⟨_, rfl, ifF rfl ?_⟩
            exact ⟨_, rfl, S35.trans S6⟩
          · rintro σ H3 ⟨s5, rfl, S3⟩
            exact ⟨_, _, _, rfl, S3⟩
      · rintro σ H2 ⟨s3, s4, s5, rfl, S2⟩
        exact ⟨_, _, _, _, rfl, S2⟩
    · rintro σ H1 ⟨s2, s3, s4, s5, rfl, S1⟩
      try walk_at "go"
      exact q _ S1
def spLaw (K : PySem.W.Frag) : Sp := fun vs H Q _ => ∃ (a : Addr) (ns : List Int), vs = [.ref a] ∧ SqL K H a (ns.map V.int) ∧ ns.length ≤ 63 ∧ ∀ H', Q (.bl true) H'
theorem k_law {f : Addr} {fd : FuncData} (F : Fun K "law" "law" s_law f fd) (D__law_purse : Dn P w K mg base 1 "_law_purse" ["_law_script", "_law_k"] (spPurse K)) (D__law_take : Dn P w K mg base 2 "_law_take" ["_law_purse_here", "_law_many"] (spTakeP K)) (D_way : Dn P w K mg base 4 "way" ["k", "hand", "side"] spWay) (D__law_meet : Dn P w K mg base 7 "_law_meet" ["_law_k", "_law_ways"] (spMeetL K)) (D__law_part : Dn P w K mg base 7 "_law_part" ["_law_k", "_law_ways"] (spPartL K)) (D__law_refused : Dn P w K mg base 6 "_law_refused" ["_law_deed", "_law_k", "_law_one"] (spRef K (cAt mg "meeting") (cAt mg "parting"))) (D_meeting : Dx P w K mg base 4 "meeting" ["k", "one", "other"] (spMeetR K (cAt mg "NoHand"))) (D_parting : Dx P w K mg base 4 "parting" ["k", "one", "other"] (spPartR K (cAt mg "NoSide"))) : FnG P w K mg base CX0 8 f fd ["_law_script"] (spLaw K) := by
  refine okG0 F sc_law (fun vs H Q E h => ?_) (fun cdv A outer s H vs Q E hr h => ⟨_, (pss_cons (ps_for PassesOwn.never rfl (pi_range1 (by rfl) B.range_ (pa_cons (pe_callB (call_max2 rfl) (by rfl) B.max_ (by decide +kernel) (pa_cons pe_int (pa_cons (pe_callB (call_min2 rfl) (by rfl) B.min_ (by decide +kernel) (pa_cons pe_int (pa_cons (pe_callB (lenK (K := K)) (by rfl) B.len_ (by decide +kernel) (pa_cons (pv 0) pa_nil)) pa_nil))) pa_nil))) pa_nil)) (pg_name (i := 1) sc_law.nd rfl (Or.inl rfl))
      (pss_cons (ps_set (i := 2) sc_law.nd rfl (Or.inl rfl) (pe_cD D__law_take (hr.less (by decide)) rfl (pa_cons (pe_cD D__law_purse (hr.less (by decide)) rfl (pa_cons (pv 0) (pa_cons (pv 1) pa_nil))) (pa_cons pe_int pa_nil))))
      (pss_cons (ps_set (i := 3) sc_law.nd rfl (Or.inl rfl) pe_dnewT)
      (pss_cons (ps_for PassesOwn.never rfl (pi_range1 (by rfl) B.range_ (pa_cons (pe_op op_shlW pe_int (pv 2)) pa_nil)) (pg_name (i := 4) sc_law.nd rfl (Or.inl rfl))
        (pss_one (ps_for PassesOwn.never rfl (pi_range1 (by rfl) B.range_ (pa_cons (pe_op op_shlW pe_int (pv 2)) pa_nil)) (pg_name (i := 5) sc_law.nd rfl (Or.inl rfl))
         (pss_one (ps_dput hr.u1 (pv 3) (pe_tup (pa_cons (pv 4) (pa_cons (pv 5) pa_nil))) (pe_cD D_way (hr.less (by decide)) rfl (pa_cons (pv 2) (pa_cons (pv 4) (pa_cons (pv 5) pa_nil)))) rfl)))))
      (pss_cons (ps_if (PW.pt (pw_or (pt_not (pt_val (pe_cD D__law_meet (hr.less (by decide)) rfl (pa_cons (pv 2) (pa_cons (pv 3) pa_nil))))) (pw_or1 (pt_not (pt_val (pe_cD D__law_part (hr.less (by decide)) rfl (pa_cons (pv 2) (pa_cons (pv 3) pa_nil))))))))
        (pss_one (ps_ret pe_bl))
        pss_nil)
      (pss_one (ps_for PassesOwn.never rfl (pi_range1 (by rfl) B.range_ (pa_cons (pe_op op_shlW pe_int (pv 2)) pa_nil)) (pg_name (i := 6) sc_law.nd rfl (Or.inl rfl))
       (pss_cons (ps_if (pt_cmpR (kk (K := K) (F := rNeD) (P := OpR _ _) (op_neD hr.units)) (pe_cD D__law_refused (hr.less (by decide)) rfl (pa_cons (pe_glob (v := .ref (cAt mg "meeting")) (u := .ref (cAt mg "meeting")) (by rfl) D_meeting.mg rfl) (pa_cons (pv 2) (pa_cons (pv 6) pa_nil)))) (pe_op op_cat (pe_lst (pa_cons pe_bl (pa_cons pe_bl (pa_cons pe_bl pa_nil)))) (pe_op op_rep (pe_lst (pa_cons pe_bl pa_nil)) pe_int)) (nomark _))
         (pss_one (ps_ret pe_bl))
         pss_nil)
       (pss_one (ps_if (pt_cmpR (kk (K := K) (F := rNeD) (P := OpR _ _) (op_neD hr.units)) (pe_cD D__law_refused (hr.less (by decide)) rfl (pa_cons (pe_glob (v := .ref (cAt mg "parting")) (u := .ref (cAt mg "parting")) (by rfl) D_parting.mg rfl) (pa_cons (pv 2) (pa_cons (pv 6) pa_nil)))) (pe_op op_cat (pe_lst (pa_cons pe_bl (pa_cons pe_bl (pa_cons pe_bl pa_nil)))) (pe_op op_rep (pe_lst (pa_cons pe_bl pa_nil)) pe_int)) (nomark _))
        (pss_one (ps_ret pe_bl))
        pss_nil))))))))))
    (pss_one (ps_ret pe_bl))), ?_⟩)
  · obtain ⟨a, ns, rfl, _⟩ := h; rfl
  · obtain ⟨a, ns, rfl, hs, hn, q⟩ := h
    try walk_at "go"
    have hN : (if (if (((ns.map V.int).length : Nat) : Int) < 2 then (((ns.map V.int).length : Nat) : Int) else 2) > 1 then (if (((ns.map V.int).length : Nat) : Int) < 2 then (((ns.map V.int).length : Nat) : Int) else 2) else 1).toNat ≤ 2 := by split <;> split <;> omega
    refine for_range (lo := 0) (n := (if (if (((ns.map V.int).length : Nat) : Int) < 2 then (((ns.map V.int).length : Nat) : Int) else 2) > 1 then (if (((ns.map V.int).length : Nat) : Int) < 2 then (((ns.map V.int).length : Nat) : Int) else 2) else 1).toNat) (fun i σ H' => ∃ s1 s2 s3 s4 s5 s6 : Option V, σ = [some (.ref a), s1, s2, s3, s4, s5, s6] ∧ Same H H') ⟨_, _, _, _, _, _, rfl, Same.refl _⟩ ?_ ?_
    · rintro c σ H1 hc ⟨s1, s2, s3, s4, s5, s6, rfl, S1⟩
      rw [Int.zero_add]
      have hs1 := S1.seq hs
      try walk_at "go"
      intro p H2 np S2 p2
      try walk_at "go"
      intro d H3 d0 d5 b3 p3
      obtain ⟨k, rfl⟩ : ∃ k : Nat, d = (k : Int) := ⟨d.toNat, by omega⟩
      have hk : k ≤ 4 := by omega
      have S13 : Same H1 H3 := but_same np S2 b3
      clear p3 b3 p2 S2
      have e16 : 2 ^ k ≤ 16 := (Nat.pow_le_pow_right (by decide) hk : 2 ^ k ≤ 2 ^ 4)
      have e1 := Nat.two_pow_pos k
      have eN : (1 * 2 ^ ((k : Int)).toNat : Int) = ((2 ^ k : Nat) : Int) := by rw [Int.toNat_natCast, Int.one_mul]; push_cast; rfl
      have eT : (1 * 2 ^ ((k : Int)).toNat : Int).toNat = 2 ^ k := by rw [eN, Int.toNat_natCast]
      have csh : CShl 1 (k : Int) := shl_ok (by omega)
      try walk_at "go"
      intro W hW
      generalize eH4 : upd _ W _ = H4
      have SH4 := newS eH4 hW
      have oW := newO eH4
      try walk_at "go"
      refine for_range (lo := 0) (n := (1 * 2 ^ ((k : Int)).toNat : Int).toNat) (fun i σ H' => ∃ (kvs : List (List Key × V)) (s4 s5 s6 : Option V), σ = [some (.ref a), some (.int (c : Int)), some (.int k), some (.ref W), s4, s5, s6] ∧ Same H3 H' ∧ H' W = some (.dT kvs) ∧ kvs.length ≤ i * 2 ^ k ∧ WysAt H' kvs k (fun h g => h < i ∧ g < 2 ^ k)) ⟨[], _, _, _, rfl, SH4, oW, Nat.zero_le _, fun h g z => absurd z.1 (Nat.not_lt_zero _)⟩ ?_ ?_
      · rintro i σ H5 hi ⟨kvs, s4, s5, s6, rfl, S5, oW5, lk, wy⟩
        rw [eT] at hi
        rw [Int.zero_add]
        try walk_at "go"
        refine for_range (lo := 0) (n := (1 * 2 ^ ((k : Int)).toNat : Int).toNat) (fun j σ H' => Kept (∃ (kvs : List (List Key × V)) (s5 s6 : Option V), σ = [some (.ref a), some (.int (c : Int)), some (.int k), some (.ref W), some (.int (i : Int)), s5, s6] ∧ Same H3 H' ∧ H' W = some (.dT kvs) ∧ kvs.length ≤ i * 2 ^ k + j ∧ WysAt H' kvs k (fun h g => (h < i ∧ g < 2 ^ k) ∨ (h = i ∧ g < j)))) ⟨kvs, _, _, rfl, S5, oW5, lk, fun h g z => wy h g (z.resolve_right fun w => absurd w.2 (Nat.not_lt_zero _))⟩ ?_ ?_
        · rintro j σ H6 hj ⟨kvs, s5, s6, rfl, S6, oW6, lk6, wy6⟩
          rw [eT] at hj
          rw [Int.zero_add]
          try walk_at "go"
          intro T H7 S7 hT
          try walk_at "go"
          intro U hU
          generalize eH8 : upd _ U _ = H8
          have SH8 := newS eH8 hU
          have oU := newO eH8
          have oW8 := SH8 _ _ (S7 _ _ oW6)
          have lk8 : kvs.length < sizeLine := by
            have : i * 2 ^ k ≤ 16 * 16 := Nat.mul_le_mul (by omega) e16
            exact Nat.lt_of_le_of_lt (show kvs.length ≤ 1000 by omega) (by decide)
          have put := DPut.t (k := kP i j) (v := .ref T) oW8 (b := U) oU lk8
          have wy8 := (wy6.same (S7.trans SH8)).but (H' := L2.upd H8 W (.dT (putK kvs (kP i j) (.ref T)))) But.upd oW8
          have hT9 : (L2.upd H8 W (.dT (putK kvs (kP i j) (.ref T)))) T = some (.tup (((List.range (k + 1)).map (low k i j)).map V.int)) := But.upd _ _ (ne_of (SH8 _ _ hT) oW8 (by intro z; cases z)) (SH8 _ _ hT)
          try walk_at "go"
          refine ⟨⟨_, _, _, rfl, but_same hW (S6.trans (S7.trans SH8)) But.upd, upd_same, ?_, wy8.put hT9 fun x y z => ?_⟩⟩
          · have := length_putK kvs (kP i j) (.ref T)
            omega
          · rcases z with z | ⟨z1, z2⟩
            · exact .inr (.inl z)
            · by_cases w : y = j
              · exact .inl ⟨z1, w⟩
              · exact .inr (.inr ⟨z1, by omega⟩)
        · rintro σ H6 ⟨kvs, s5, s6, rfl, S6, oW6, lk6, wy6⟩
          rw [eT] at lk6 wy6
          refine ⟨kvs, _, _, _, rfl, S6, oW6, by rw [Nat.add_mul, Nat.one_mul]; exact lk6, fun h g z => wy6 h g ?_⟩
          by_cases w : h < i
          · exact .inl ⟨w, z.2⟩
          · exact .inr ⟨by omega, z.2⟩
      · rintro σ H5 ⟨kvs, s4, s5, s6, rfl, S5, oW5, lk, wy⟩
        rw [eT] at wy
        try walk_at "go"
        intro H6 S6
        have oW6 := S6 _ _ oW5
        have wy6 := wy.same S6
        try walk_at "go"
        intro H7 S7
        have S17 := S1.trans (S13.trans (S5.trans (S6.trans S7)))
        try walk_at "go"
        refine for_range (lo := 0) (n := (1 * 2 ^ ((k : Int)).toNat : Int).toNat) (fun i σ H' => ∃ s6 : Option V, σ = [some (.ref a), some (.int (c : Int)), some (.int k), some (.ref W), s4, s5, s6] ∧ Same H H') ⟨_, rfl, S17⟩ ?_ ?_
        · rintro i σ H8 hi ⟨s6, rfl, S8⟩
          rw [eT] at hi
          rw [Int.zero_add]
          try walk_at "go"
          refine .inl ⟨rfl, fun Lx Hx1 Sx1 oLx => ?_⟩
          replace oLx : Hx1 Lx = some (.lst (([true, false, true, false, false, false] : List Bool).map V.bl)) := oLx
          try walk_at "go"
          intro Ax hAx
          generalize eHx2 : upd _ Ax _ = Hx2
          have SHx2 := newS eHx2 hAx
          have oAx := newO eHx2
          try walk_at "go"
          intro Cx hCx
          generalize eHx3 : upd _ Cx _ = Hx3
          have SHx3 := newS eHx3 hCx
          have oCx := newO eHx3
          have oAx3 := SHx3 _ _ oAx
          try walk_at "go"
          intro Rx hRx
          generalize eHx4 : upd Hx3 Rx _ = Hx4
          have SHx4 : Same Hx3 Hx4 := eHx4 ▸ same_new hRx _
          have oRx : Hx4 Rx = some (.lst [.bl false, .bl false, .bl false]) := eHx4 ▸ upd_same
          have oAx4 := SHx4 _ _ oAx3
          have lzx : [V.bl true, V.bl false, V.bl true].length + [V.bl false, V.bl false, V.bl false].length ≤ sizeLine := by decide
          try walk_at "go"
          intro Fx hFx
          generalize eHx5 : upd _ Fx _ = Hx5
          have SHx5 := newS eHx5 hFx
          have oFx := newO eHx5
          have Sx5 := SHx2.trans (SHx3.trans (SHx4.trans SHx5))
          have dx1 := bools_dp (K := K) (Sx5 _ _ oLx)
          have dx2 := bools_dp (K := K) (bs := [true, false, true, false, false, false]) oFx
          have shx := bools_shaped [true, false, true, false, false, false]
          try walk_at "go"
          refine .inr ⟨rfl, fun Ly Hy1 Sy1 oLy => ?_⟩
          replace oLy : Hy1 Ly = some (.lst (([false, true, true, false, false, false] : List Bool).map V.bl)) := oLy
          try walk_at "go"
          intro Ay hAy
          generalize eHy2 : upd _ Ay _ = Hy2
          have SHy2 := newS eHy2 hAy
          have oAy := newO eHy2
          try walk_at "go"
          intro Cy hCy
          generalize eHy3 : upd _ Cy _ = Hy3
          have SHy3 := newS eHy3 hCy
          have oCy := newO eHy3
          have oAy3 := SHy3 _ _ oAy
          try walk_at "go"
          intro Ry hRy
          generalize eHy4 : upd Hy3 Ry _ = Hy4
          have SHy4 : Same Hy3 Hy4 := eHy4 ▸ same_new hRy _
          have oRy : Hy4 Ry = some (.lst [.bl false, .bl false, .bl false]) := eHy4 ▸ upd_same
          have oAy4 := SHy4 _ _ oAy3
          have lzy : [V.bl false, V.bl true, V.bl true].length + [V.bl false, V.bl false, V.bl false].length ≤ sizeLine := by decide
          try walk_at "go"
          intro Fy hFy
          generalize eHy5 : upd _ Fy _ = Hy5
          have SHy5 := newS eHy5 hFy
          have oFy := newO eHy5
          have Sy5 := SHy2.trans (SHy3.trans (SHy4.trans SHy5))
          have dy1 := bools_dp (K := K) (Sy5 _ _ oLy)
          have dy2 := bools_dp (K := K) (bs := [false, true, true, false, false, false]) oFy
          have shy := bools_shaped [false, true, true, false, false, false]
          try walk_at "go"
          exact S8.trans (Sx1.trans (Sx5.trans (Sy1.trans Sy5)))
        · rintro σ H8 ⟨s6, rfl, S8⟩
          exact ⟨_, _, _, _, _, _, rfl, S8⟩
    · rintro σ H1 ⟨s1, s2, s3, s4, s5, s6, rfl, S1⟩
      try walk_at "go"
      exact q _
end
structure AllD (K : PySem.W.Frag) (mg : Str → Option Value) : Prop where
  d_is_whole : Df K mg "is_whole" s_is_whole ["thing"]
  d_is_within : Df K mg "is_within" s_is_within ["thing", "least", "most"]
  d_want_net : Dfd K mg "want_net" s_want_net ["k", "deepest"] [.int 4]
  d_is_line : Df K mg "is_line" s_is_line ["k", "thing"]
  d_want_hand : Df K mg "want_hand" s_want_hand ["k", "thing"]
  d_want_side : Df K mg "want_side" s_want_side ["k", "thing"]
  d_line_on_way : Df K mg "line_on_way" s_line_on_way ["k", "hand", "goal", "level"]
  d_way : Df K mg "way" s_way ["k", "hand", "side"]
  d_meeting : Df K mg "meeting" s_meeting ["k", "one", "other"]
  d_parting : Df K mg "parting" s_parting ["k", "one", "other"]
  d__law_rich : Df K mg "_law_rich" s__law_rich ["_law_cell", "_law_turn"]
  d__law_purse : Df K mg "_law_purse" s__law_purse ["_law_script", "_law_k"]
  d__law_take : Df K mg "_law_take" s__law_take ["_law_purse_here", "_law_many"]
  d__law_is_stage : Df K mg "_law_is_stage" s__law_is_stage ["_law_k", "_law_thing"]
  d__law_refused : Df K mg "_law_refused" s__law_refused ["_law_deed", "_law_k", "_law_one"]
  d__law_are_told : Df K mg "_law_are_told" s__law_are_told ["_law_k", "_law_told", "_law_one", "_law_other", "_law_is_meeting"]
  d__law_meet : Df K mg "_law_meet" s__law_meet ["_law_k", "_law_ways"]
  d__law_part : Df K mg "_law_part" s__law_part ["_law_k", "_law_ways"]
  d_law : Df K mg "law" s_law ["_law_script"]
  bl : Bl K mg
theorem all_mk {w : World} {K : PySem.W.Frag} {h : Heap} {mg : Str → Option Value} (X : K.In h) (G : h.Ns mainGlobals mg)
    {f1 f2 f3 f4 f5 f6 f7 f8 f9 f10 f11 f12 f13 f14 f15 f16 f17 f18 f19 : Addr} {od1 an1 od2 an2 od3 an3 od4 an4 od5 an5 od6 an6 od7 an7 od8 an8 od9 an9 od10 an10 od11 an11 od12 an12 od13 an13 od14 an14 od15 an15 od16 an16 od17 an17 od18 an18 od19 an19 : Option Addr} {sl1 sl2 sl3 sl4 sl5 sl6 sl7 sl8 sl9 sl10 sl11 sl12 sl13 sl14 sl15 sl16 sl17 sl18 sl19 : Array (Option Value)} {oc1 kV1 dc1 pm1 cd1 ct1 oc2 kV2 dc2 pm2 cd2 ct2 oc3 kV3 dc3 pm3 cd3 ct3 oc4 kV4 dc4 pm4 cd4 ct4 oc5 kV5 dc5 pm5 cd5 ct5 oc6 kV6 dc6 pm6 cd6 ct6 oc7 kV7 dc7 pm7 cd7 ct7 oc8 kV8 dc8 pm8 cd8 ct8 oc9 kV9 dc9 pm9 cd9 ct9 oc10 kV10 dc10 pm10 cd10 ct10 oc11 kV11 dc11 pm11 cd11 ct11 oc12 kV12 dc12 pm12 cd12 ct12 oc13 kV13 dc13 pm13 cd13 ct13 oc14 kV14 dc14 pm14 cd14 ct14 oc15 kV15 dc15 pm15 cd15 ct15 oc16 kV16 dc16 pm16 cd16 ct16 oc17 kV17 dc17 pm17 cd17 ct17 oc18 kV18 dc18 pm18 cd18 ct18 oc19 kV19 dc19 pm19 cd19 ct19 : Value}
    {da3 : Addr}
    {E0 : Addr} (aE0 : PySem.W.nsIn K mainGlobals "AskError" = some (some (.ref E0))) (xE0 : PySem.W.excIn K E0 [.type "ValueError", .type "Exception", .type "BaseException", .type "object"] "ValueError.__new__" = true) (kE0 : PySem.W.keepIn K (.ref E0) = true) (bE0 : PySem.W.subIn K (.ref E0) (.type "BaseException") = some true) (tE0 : PySem.W.typeIn K (.ref E0) = some (.type "type")) (iE0 : PySem.W.isClsIn K E0 = true)
    {E1 : Addr} (aE1 : PySem.W.nsIn K mainGlobals "NoHand" = some (some (.ref E1))) (xE1 : PySem.W.excIn K E1 [.type "ValueError", .type "Exception", .type "BaseException", .type "object"] "ValueError.__new__" = true) (kE1 : PySem.W.keepIn K (.ref E1) = true) (bE1 : PySem.W.subIn K (.ref E1) (.type "BaseException") = some true) (tE1 : PySem.W.typeIn K (.ref E1) = some (.type "type")) (iE1 : PySem.W.isClsIn K E1 = true)
    {E2 : Addr} (aE2 : PySem.W.nsIn K mainGlobals "NoNet" = some (some (.ref E2))) (xE2 : PySem.W.excIn K E2 [.type "ValueError", .type "Exception", .type "BaseException", .type "object"] "ValueError.__new__" = true) (kE2 : PySem.W.keepIn K (.ref E2) = true) (bE2 : PySem.W.subIn K (.ref E2) (.type "BaseException") = some true) (tE2 : PySem.W.typeIn K (.ref E2) = some (.type "type")) (iE2 : PySem.W.isClsIn K E2 = true)
    {E3 : Addr} (aE3 : PySem.W.nsIn K mainGlobals "NoNumber" = some (some (.ref E3))) (xE3 : PySem.W.excIn K E3 [.type "ValueError", .type "Exception", .type "BaseException", .type "object"] "ValueError.__new__" = true) (kE3 : PySem.W.keepIn K (.ref E3) = true) (bE3 : PySem.W.subIn K (.ref E3) (.type "BaseException") = some true) (tE3 : PySem.W.typeIn K (.ref E3) = some (.type "type")) (iE3 : PySem.W.isClsIn K E3 = true)
    {E4 : Addr} (aE4 : PySem.W.nsIn K mainGlobals "NoSettings" = some (some (.ref E4))) (xE4 : PySem.W.excIn K E4 [.type "ValueError", .type "Exception", .type "BaseException", .type "object"] "ValueError.__new__" = true) (kE4 : PySem.W.keepIn K (.ref E4) = true) (bE4 : PySem.W.subIn K (.ref E4) (.type "BaseException") = some true) (tE4 : PySem.W.typeIn K (.ref E4) = some (.type "type")) (iE4 : PySem.W.isClsIn K E4 = true)
    {E5 : Addr} (aE5 : PySem.W.nsIn K mainGlobals "NoSide" = some (some (.ref E5))) (xE5 : PySem.W.excIn K E5 [.type "ValueError", .type "Exception", .type "BaseException", .type "object"] "ValueError.__new__" = true) (kE5 : PySem.W.keepIn K (.ref E5) = true) (bE5 : PySem.W.subIn K (.ref E5) (.type "BaseException") = some true) (tE5 : PySem.W.typeIn K (.ref E5) = some (.type "type")) (iE5 : PySem.W.isClsIn K E5 = true)
    (sE1_0 : PySem.W.subIn K (.ref E1) (.ref E0) = some true)
    (sE1_1 : PySem.W.subIn K (.ref E1) (.ref E1) = some true)
    (sE1_2 : PySem.W.subIn K (.ref E1) (.ref E2) = some false)
    (sE1_3 : PySem.W.subIn K (.ref E1) (.ref E3) = some false)
    (sE1_4 : PySem.W.subIn K (.ref E1) (.ref E4) = some false)
    (sE1_5 : PySem.W.subIn K (.ref E1) (.ref E5) = some false)
    (sE5_0 : PySem.W.subIn K (.ref E5) (.ref E0) = some true)
    (sE5_1 : PySem.W.subIn K (.ref E5) (.ref E1) = some false)
    (sE5_2 : PySem.W.subIn K (.ref E5) (.ref E2) = some false)
    (sE5_3 : PySem.W.subIn K (.ref E5) (.ref E3) = some false)
    (sE5_4 : PySem.W.subIn K (.ref E5) (.ref E4) = some false)
    (sE5_5 : PySem.W.subIn K (.ref E5) (.ref E5) = some true)
    (spG : PySem.W.specialIn K (.builtin "object.__class__") "__get__" = some (some (.builtin "getset_descriptor.__get__"))) (tkG : PySem.W.takesIn K (.builtin "object.__class__") = some true)
    (ga1 : PySem.W.findIn K (.ref E1) "__getattribute__" = some (some (.builtin "BaseException.__getattribute__"))) (gt1 : PySem.W.findIn K (.ref E1) "__getattr__" = some none) (hi1 : PySem.W.hasDictIn K E1 = true) (fc1 : PySem.W.findIn K (.ref E1) "__class__" = some (some (.builtin "object.__class__"))) (mo1 : PySem.W.mroIn K E1 (.type "object") = some true) (vE1 : PySem.W.subIn K (.ref E1) (.type "ValueError") = some true)
    (ga5 : PySem.W.findIn K (.ref E5) "__getattribute__" = some (some (.builtin "BaseException.__getattribute__"))) (gt5 : PySem.W.findIn K (.ref E5) "__getattr__" = some none) (hi5 : PySem.W.hasDictIn K E5 = true) (fc5 : PySem.W.findIn K (.ref E5) "__class__" = some (some (.builtin "object.__class__"))) (mo5 : PySem.W.mroIn K E5 (.type "object") = some true) (vE5 : PySem.W.subIn K (.ref E5) (.type "ValueError") = some true)
    (a1 : PySem.W.nsIn K mainGlobals "is_whole" = some (some (.ref f1))) (l1 : K.lookup f1 = some ⟨oc1, od1, .func (PySem.W.fnOf "is_whole" "is_whole" (defArgs s_is_whole) (defBody s_is_whole) (defScope s_is_whole) .none kV1 dc1 pm1 an1 cd1 ct1), sl1⟩) (c1 : PySem.W.codeIn K cd1 "is_whole" = true) (k1 : PySem.W.keepIn K (.ref f1) = true)
    (a2 : PySem.W.nsIn K mainGlobals "is_within" = some (some (.ref f2))) (l2 : K.lookup f2 = some ⟨oc2, od2, .func (PySem.W.fnOf "is_within" "is_within" (defArgs s_is_within) (defBody s_is_within) (defScope s_is_within) .none kV2 dc2 pm2 an2 cd2 ct2), sl2⟩) (c2 : PySem.W.codeIn K cd2 "is_within" = true) (k2 : PySem.W.keepIn K (.ref f2) = true)
    (a3 : PySem.W.nsIn K mainGlobals "want_net" = some (some (.ref f3))) (l3 : K.lookup f3 = some ⟨oc3, od3, .func (PySem.W.fnOf "want_net" "want_net" (defArgs s_want_net) (defBody s_want_net) (defScope s_want_net) (.ref da3) kV3 dc3 pm3 an3 cd3 ct3), sl3⟩) (c3 : PySem.W.codeIn K cd3 "want_net" = true) (k3 : PySem.W.keepIn K (.ref f3) = true)
    {dt3_0 : Tok} {dd3 : Option Addr} {dn3 : Nat} {dz3 : Array (Option Value)} (dl3 : K.lookup da3 = some ⟨.type "tuple", dd3, .seq #[.int 4 dt3_0] dn3, dz3⟩)
    (a4 : PySem.W.nsIn K mainGlobals "is_line" = some (some (.ref f4))) (l4 : K.lookup f4 = some ⟨oc4, od4, .func (PySem.W.fnOf "is_line" "is_line" (defArgs s_is_line) (defBody s_is_line) (defScope s_is_line) .none kV4 dc4 pm4 an4 cd4 ct4), sl4⟩) (c4 : PySem.W.codeIn K cd4 "is_line" = true) (k4 : PySem.W.keepIn K (.ref f4) = true)
    (a5 : PySem.W.nsIn K mainGlobals "want_hand" = some (some (.ref f5))) (l5 : K.lookup f5 = some ⟨oc5, od5, .func (PySem.W.fnOf "want_hand" "want_hand" (defArgs s_want_hand) (defBody s_want_hand) (defScope s_want_hand) .none kV5 dc5 pm5 an5 cd5 ct5), sl5⟩) (c5 : PySem.W.codeIn K cd5 "want_hand" = true) (k5 : PySem.W.keepIn K (.ref f5) = true)
    (a6 : PySem.W.nsIn K mainGlobals "want_side" = some (some (.ref f6))) (l6 : K.lookup f6 = some ⟨oc6, od6, .func (PySem.W.fnOf "want_side" "want_side" (defArgs s_want_side) (defBody s_want_side) (defScope s_want_side) .none kV6 dc6 pm6 an6 cd6 ct6), sl6⟩) (c6 : PySem.W.codeIn K cd6 "want_side" = true) (k6 : PySem.W.keepIn K (.ref f6) = true)
    (a7 : PySem.W.nsIn K mainGlobals "line_on_way" = some (some (.ref f7))) (l7 : K.lookup f7 = some ⟨oc7, od7, .func (PySem.W.fnOf "line_on_way" "line_on_way" (defArgs s_line_on_way) (defBody s_line_on_way) (defScope s_line_on_way) .none kV7 dc7 pm7 an7 cd7 ct7), sl7⟩) (c7 : PySem.W.codeIn K cd7 "line_on_way" = true) (k7 : PySem.W.keepIn K (.ref f7) = true)
    (a8 : PySem.W.nsIn K mainGlobals "way" = some (some (.ref f8))) (l8 : K.lookup f8 = some ⟨oc8, od8, .func (PySem.W.fnOf "way" "way" (defArgs s_way) (defBody s_way) (defScope s_way) .none kV8 dc8 pm8 an8 cd8 ct8), sl8⟩) (c8 : PySem.W.codeIn K cd8 "way" = true) (k8 : PySem.W.keepIn K (.ref f8) = true)
    (a9 : PySem.W.nsIn K mainGlobals "meeting" = some (some (.ref f9))) (l9 : K.lookup f9 = some ⟨oc9, od9, .func (PySem.W.fnOf "meeting" "meeting" (defArgs s_meeting) (defBody s_meeting) (defScope s_meeting) .none kV9 dc9 pm9 an9 cd9 ct9), sl9⟩) (c9 : PySem.W.codeIn K cd9 "meeting" = true) (k9 : PySem.W.keepIn K (.ref f9) = true)
    (a10 : PySem.W.nsIn K mainGlobals "parting" = some (some (.ref f10))) (l10 : K.lookup f10 = some ⟨oc10, od10, .func (PySem.W.fnOf "parting" "parting" (defArgs s_parting) (defBody s_parting) (defScope s_parting) .none kV10 dc10 pm10 an10 cd10 ct10), sl10⟩) (c10 : PySem.W.codeIn K cd10 "parting" = true) (k10 : PySem.W.keepIn K (.ref f10) = true)
    (a11 : PySem.W.nsIn K mainGlobals "_law_rich" = some (some (.ref f11))) (l11 : K.lookup f11 = some ⟨oc11, od11, .func (PySem.W.fnOf "_law_rich" "_law_rich" (defArgs s__law_rich) (defBody s__law_rich) (defScope s__law_rich) .none kV11 dc11 pm11 an11 cd11 ct11), sl11⟩) (c11 : PySem.W.codeIn K cd11 "_law_rich" = true) (k11 : PySem.W.keepIn K (.ref f11) = true)
    (a12 : PySem.W.nsIn K mainGlobals "_law_purse" = some (some (.ref f12))) (l12 : K.lookup f12 = some ⟨oc12, od12, .func (PySem.W.fnOf "_law_purse" "_law_purse" (defArgs s__law_purse) (defBody s__law_purse) (defScope s__law_purse) .none kV12 dc12 pm12 an12 cd12 ct12), sl12⟩) (c12 : PySem.W.codeIn K cd12 "_law_purse" = true) (k12 : PySem.W.keepIn K (.ref f12) = true)
    (a13 : PySem.W.nsIn K mainGlobals "_law_take" = some (some (.ref f13))) (l13 : K.lookup f13 = some ⟨oc13, od13, .func (PySem.W.fnOf "_law_take" "_law_take" (defArgs s__law_take) (defBody s__law_take) (defScope s__law_take) .none kV13 dc13 pm13 an13 cd13 ct13), sl13⟩) (c13 : PySem.W.codeIn K cd13 "_law_take" = true) (k13 : PySem.W.keepIn K (.ref f13) = true)
    (a14 : PySem.W.nsIn K mainGlobals "_law_is_stage" = some (some (.ref f14))) (l14 : K.lookup f14 = some ⟨oc14, od14, .func (PySem.W.fnOf "_law_is_stage" "_law_is_stage" (defArgs s__law_is_stage) (defBody s__law_is_stage) (defScope s__law_is_stage) .none kV14 dc14 pm14 an14 cd14 ct14), sl14⟩) (c14 : PySem.W.codeIn K cd14 "_law_is_stage" = true) (k14 : PySem.W.keepIn K (.ref f14) = true)
    (a15 : PySem.W.nsIn K mainGlobals "_law_refused" = some (some (.ref f15))) (l15 : K.lookup f15 = some ⟨oc15, od15, .func (PySem.W.fnOf "_law_refused" "_law_refused" (defArgs s__law_refused) (defBody s__law_refused) (defScope s__law_refused) .none kV15 dc15 pm15 an15 cd15 ct15), sl15⟩) (c15 : PySem.W.codeIn K cd15 "_law_refused" = true) (k15 : PySem.W.keepIn K (.ref f15) = true)
    (a16 : PySem.W.nsIn K mainGlobals "_law_are_told" = some (some (.ref f16))) (l16 : K.lookup f16 = some ⟨oc16, od16, .func (PySem.W.fnOf "_law_are_told" "_law_are_told" (defArgs s__law_are_told) (defBody s__law_are_told) (defScope s__law_are_told) .none kV16 dc16 pm16 an16 cd16 ct16), sl16⟩) (c16 : PySem.W.codeIn K cd16 "_law_are_told" = true) (k16 : PySem.W.keepIn K (.ref f16) = true)
    (a17 : PySem.W.nsIn K mainGlobals "_law_meet" = some (some (.ref f17))) (l17 : K.lookup f17 = some ⟨oc17, od17, .func (PySem.W.fnOf "_law_meet" "_law_meet" (defArgs s__law_meet) (defBody s__law_meet) (defScope s__law_meet) .none kV17 dc17 pm17 an17 cd17 ct17), sl17⟩) (c17 : PySem.W.codeIn K cd17 "_law_meet" = true) (k17 : PySem.W.keepIn K (.ref f17) = true)
    (a18 : PySem.W.nsIn K mainGlobals "_law_part" = some (some (.ref f18))) (l18 : K.lookup f18 = some ⟨oc18, od18, .func (PySem.W.fnOf "_law_part" "_law_part" (defArgs s__law_part) (defBody s__law_part) (defScope s__law_part) .none kV18 dc18 pm18 an18 cd18 ct18), sl18⟩) (c18 : PySem.W.codeIn K cd18 "_law_part" = true) (k18 : PySem.W.keepIn K (.ref f18) = true)
    (a19 : PySem.W.nsIn K mainGlobals "law" = some (some (.ref f19))) (l19 : K.lookup f19 = some ⟨oc19, od19, .func (PySem.W.fnOf "law" "law" (defArgs s_law) (defBody s_law) (defScope s_law) .none kV19 dc19 pm19 an19 cd19 ct19), sl19⟩) (c19 : PySem.W.codeIn K cd19 "law" = true) (k19 : PySem.W.keepIn K (.ref f19) = true)
    (z0 : PySem.W.nsIn K mainGlobals "ValueError" = some none)
    (z1 : PySem.W.nsIn K mainGlobals "abs" = some none)
    (z2 : PySem.W.nsIn K mainGlobals "bool" = some none)
    (z3 : PySem.W.nsIn K mainGlobals "e" = some none)
    (z4 : PySem.W.nsIn K mainGlobals "enumerate" = some none)
    (z5 : PySem.W.nsIn K mainGlobals "int" = some none)
    (z6 : PySem.W.nsIn K mainGlobals "isinstance" = some none)
    (z7 : PySem.W.nsIn K mainGlobals "len" = some none)
    (z8 : PySem.W.nsIn K mainGlobals "max" = some none)
    (z9 : PySem.W.nsIn K mainGlobals "min" = some none)
    (z10 : PySem.W.nsIn K mainGlobals "range" = some none)
    (z11 : PySem.W.nsIn K mainGlobals "tuple" = some none)
    (z12 : PySem.W.nsIn K mainGlobals "zip" = some none)
    : AllD K mg := by
  exact ⟨Df.of l1 c1 k1 (PySem.W.mg_of X G a1) (fun _ _ _ _ _ _ us hl => match us, hl with | [_], _ => rfl), Df.of l2 c2 k2 (PySem.W.mg_of X G a2) (fun _ _ _ _ _ _ us hl => match us, hl with | [_, _, _], _ => rfl), Dfd.of (n := 1) l3 c3 k3 (PySem.W.mg_of X G a3) dl3 rfl (.cons ⟨_, rfl⟩ .nil) rfl (fun us hl => match us, hl with | [_], _ => ⟨_, rfl, rfl⟩), Df.of l4 c4 k4 (PySem.W.mg_of X G a4) (fun _ _ _ _ _ _ us hl => match us, hl with | [_, _], _ => rfl), Df.of l5 c5 k5 (PySem.W.mg_of X G a5) (fun _ _ _ _ _ _ us hl => match us, hl with | [_, _], _ => rfl), Df.of l6 c6 k6 (PySem.W.mg_of X G a6) (fun _ _ _ _ _ _ us hl => match us, hl with | [_, _], _ => rfl), Df.of l7 c7 k7 (PySem.W.mg_of X G a7) (fun _ _ _ _ _ _ us hl => match us, hl with | [_, _, _, _], _ => rfl), Df.of l8 c8 k8 (PySem.W.mg_of X G a8) (fun _ _ _ _ _ _ us hl => match us, hl with | [_, _, _], _ => rfl), Df.of l9 c9 k9 (PySem.W.mg_of X G a9) (fun _ _ _ _ _ _ us hl => match us, hl with | [_, _, _], _ => rfl), Df.of l10 c10 k10 (PySem.W.mg_of X G a10) (fun _ _ _ _ _ _ us hl => match us, hl with | [_, _, _], _ => rfl), Df.of l11 c11 k11 (PySem.W.mg_of X G a11) (fun _ _ _ _ _ _ us hl => match us, hl with | [_, _], _ => rfl), Df.of l12 c12 k12 (PySem.W.mg_of X G a12) (fun _ _ _ _ _ _ us hl => match us, hl with | [_, _], _ => rfl), Df.of l13 c13 k13 (PySem.W.mg_of X G a13) (fun _ _ _ _ _ _ us hl => match us, hl with | [_, _], _ => rfl), Df.of l14 c14 k14 (PySem.W.mg_of X G a14) (fun _ _ _ _ _ _ us hl => match us, hl with | [_, _], _ => rfl), Df.of l15 c15 k15 (PySem.W.mg_of X G a15) (fun _ _ _ _ _ _ us hl => match us, hl with | [_, _, _], _ => rfl), Df.of l16 c16 k16 (PySem.W.mg_of X G a16) (fun _ _ _ _ _ _ us hl => match us, hl with | [_, _, _, _, _], _ => rfl), Df.of l17 c17 k17 (PySem.W.mg_of X G a17) (fun _ _ _ _ _ _ us hl => match us, hl with | [_, _], _ => rfl), Df.of l18 c18 k18 (PySem.W.mg_of X G a18) (fun _ _ _ _ _ _ us hl => match us, hl with | [_, _], _ => rfl), Df.of l19 c19 k19 (PySem.W.mg_of X G a19) (fun _ _ _ _ _ _ us hl => match us, hl with | [_], _ => rfl), ⟨PySem.W.mg_none_of X G z0, PySem.W.mg_none_of X G z1, PySem.W.mg_none_of X G z2, PySem.W.mg_none_of X G z3, PySem.W.mg_none_of X G z4, PySem.W.mg_none_of X G z5, PySem.W.mg_none_of X G z6, PySem.W.mg_none_of X G z7, PySem.W.mg_none_of X G z8, PySem.W.mg_none_of X G z9, PySem.W.mg_none_of X G z10, PySem.W.mg_none_of X G z11, PySem.W.mg_none_of X G z12, ExcF.of (PySem.W.mg_of X G aE0) xE0 kE0 bE0 tE0 iE0, ExcF.of (PySem.W.mg_of X G aE1) xE1 kE1 bE1 tE1 iE1, ExcF.of (PySem.W.mg_of X G aE2) xE2 kE2 bE2 tE2 iE2, ExcF.of (PySem.W.mg_of X G aE3) xE3 kE3 bE3 tE3 iE3, ExcF.of (PySem.W.mg_of X G aE4) xE4 kE4 bE4 tE4 iE4, ExcF.of (PySem.W.mg_of X G aE5) xE5 kE5 bE5 tE5 iE5, SubF.of (PySem.W.mg_of X G aE1) (PySem.W.mg_of X G aE0) sE1_0, SubF.of (PySem.W.mg_of X G aE1) (PySem.W.mg_of X G aE1) sE1_1, SubF.of (PySem.W.mg_of X G aE1) (PySem.W.mg_of X G aE2) sE1_2, SubF.of (PySem.W.mg_of X G aE1) (PySem.W.mg_of X G aE3) sE1_3, SubF.of (PySem.W.mg_of X G aE1) (PySem.W.mg_of X G aE4) sE1_4, SubF.of (PySem.W.mg_of X G aE1) (PySem.W.mg_of X G aE5) sE1_5, SubF.of (PySem.W.mg_of X G aE5) (PySem.W.mg_of X G aE0) sE5_0, SubF.of (PySem.W.mg_of X G aE5) (PySem.W.mg_of X G aE1) sE5_1, SubF.of (PySem.W.mg_of X G aE5) (PySem.W.mg_of X G aE2) sE5_2, SubF.of (PySem.W.mg_of X G aE5) (PySem.W.mg_of X G aE3) sE5_3, SubF.of (PySem.W.mg_of X G aE5) (PySem.W.mg_of X G aE4) sE5_4, SubF.of (PySem.W.mg_of X G aE5) (PySem.W.mg_of X G aE5) sE5_5, ExcI.of (PySem.W.mg_of X G aE1) ⟨ga1, gt1, bE1, hi1, fc1, spG, tkG, mo1⟩ vE1, ExcI.of (PySem.W.mg_of X G aE5) ⟨ga5, gt5, bE5, hi5, fc5, spG, tkG, mo5⟩ vE5⟩⟩

theorem law_fd {P : Program} {w : World} {K : PySem.W.Frag} {mg : Str → Option Value} {fa : Addr} (A : AllD K mg) (hfa : mg "law" = some (.ref fa)) :
    ∃ fd : FuncData, (∀ (s : Shared) (v : Value), BindsTo s fd ⟨[v], []⟩ [("_law_script", v)]) ∧ ∀ base : Heap, K.In base → base.Ns mainGlobals mg → FnG P w K mg base CX0 8 fa fd ["_law_script"] (spLaw K) := by
  obtain ⟨f, fd, F, m, b⟩ := A.d_law.ex
  have e := hfa.symm.trans m
  cases e
  refine ⟨fd, fun s v => by obtain ⟨oc, od, kV, doc, pm, an, cdv, ct, osl, rfl, lk, hcd⟩ := F.ex; exact .of_eq rfl, fun base _ _ => ?_⟩
  have B := A.bl
  have D_is_whole : Dn P w K mg base 1 "is_whole" ["thing"] spIsWhole := k_is_whole B A.d_is_whole 
  have D_is_within : Dn P w K mg base 2 "is_within" ["thing", "least", "most"] spIsWithin := k_is_within B A.d_is_within D_is_whole
  have D_want_net : DnD P w K mg base 3 "want_net" ["k", "deepest"] [.int 4] spWantNet := k_want_net B A.d_want_net D_is_within
  have D_is_line : Dn P w K mg base 2 "is_line" ["k", "thing"] spIsLine := k_is_line B A.d_is_line D_is_whole
  have D_want_hand : Dn P w K mg base 3 "want_hand" ["k", "thing"] spWantLine := k_want_hand B A.d_want_hand D_is_line
  have D_want_side : Dn P w K mg base 3 "want_side" ["k", "thing"] spWantLine := k_want_side B A.d_want_side D_is_line
  have D_line_on_way : Dn P w K mg base 1 "line_on_way" ["k", "hand", "goal", "level"] spLow := k_line_on_way B A.d_line_on_way 
  have D_way : Dn P w K mg base 4 "way" ["k", "hand", "side"] spWay := k_way B A.d_way D_want_net D_want_hand D_want_side D_line_on_way
  have D__law_rich : Dn P w K mg base 1 "_law_rich" ["_law_cell", "_law_turn"] (spRich K) := k__law_rich B A.d__law_rich 
  have D__law_purse : Dn P w K mg base 1 "_law_purse" ["_law_script", "_law_k"] (spPurse K) := k__law_purse B A.d__law_purse 
  have D__law_take : Dn P w K mg base 2 "_law_take" ["_law_purse_here", "_law_many"] (spTakeP K) := k__law_take B A.d__law_take D__law_rich
  have D_meeting : Dx P w K mg base 4 "meeting" ["k", "one", "other"] (spMeetR K (cAt mg "NoHand")) := k_meeting B A.d_meeting D_want_net D_want_hand
  have D_parting : Dx P w K mg base 4 "parting" ["k", "one", "other"] (spPartR K (cAt mg "NoSide")) := k_parting B A.d_parting D_want_net D_want_side
  have D__law_is_stage : Dn P w K mg base 1 "_law_is_stage" ["_law_k", "_law_thing"] spStage := k__law_is_stage B A.d__law_is_stage 
  have D__law_refused : Dn P w K mg base 6 "_law_refused" ["_law_deed", "_law_k", "_law_one"] (spRef K (cAt mg "meeting") (cAt mg "parting")) := k__law_refused B A.d__law_refused D_meeting D_parting
  have D__law_are_told : Dn P w K mg base 1 "_law_are_told" ["_law_k", "_law_told", "_law_one", "_law_other", "_law_is_meeting"] (spAreT K) := k__law_are_told B A.d__law_are_told 
  have D__law_meet : Dn P w K mg base 7 "_law_meet" ["_law_k", "_law_ways"] (spMeetL K) := k__law_meet B A.d__law_meet D_meeting D__law_is_stage D__law_are_told
  have D__law_part : Dn P w K mg base 7 "_law_part" ["_law_k", "_law_ways"] (spPartL K) := k__law_part B A.d__law_part D_parting D__law_is_stage D__law_are_told
  exact k_law B F D__law_purse D__law_take D_way D__law_meet D__law_part D__law_refused D_meeting D_parting

theorem walk {l : PySem.W.OpenLaw} {q : Program} {loose : List Str} {XP : (Str → Option Value) → Heap → Prop} {YP : World → Heap → Prop} {d : DefRec} {K : Params → PySem.W.Frag} (hn : l.most = some 63) (hdf : d.params.defaults = [])
    (hY : ∀ (w : World) (h : Heap), YP w h → (K w.params).In h) (hname : d.name = "law") (F : ∀ (w : World) (mg : Str → Option Value) (h : Heap), (K w.params).In h → h.Ns mainGlobals mg → AllD (K w.params) mg) :
    PySem.W.WalkO q loose XP YP l.row.toRowW d [] (fun f vs => PySem.call f vs) :=
  walk_G (n := 63) (k := 8) (x := "_law_script") (sp := spLaw) hn (by decide) hdf ⟨rfl, by decide, by decide⟩ hY
    (fun w mg fa h KX G hfa => law_fd (F w mg h KX G) (by rw [hname] at hfa; exact hfa)) fun _ _ a ns hl hS => ⟨a, ns, rfl, hS, hl, fun _ => rfl⟩
end Toy
open PySem PySem.W PyProof.Rows
set_option maxRecDepth 100000 in
set_option maxHeartbeats 0 in
theorem PySem.Challenge.cw_joinedasks_k32_whole_meet_and_part_holds : PySem.Challenge.rw_joinedasks_k32_whole_meet_and_part.Holds := by
  w_on; o_law; k_head; (case hw => w_witness2)
  k_fill
  refine Toy.walk (l := PySem.Challenge.rw_joinedasks_k32_whole_meet_and_part) rfl rfl (fun w h Y => PySem.W.kIn_of Y) rfl ?F
  case F =>
    intro w mg h KX G
    refine' Toy.all_mk (w := w) KX G ?aE0 ?xE0 ?kE0 ?bE0 ?tE0 ?iE0 ?aE1 ?xE1 ?kE1 ?bE1 ?tE1 ?iE1 ?aE2 ?xE2 ?kE2 ?bE2 ?tE2 ?iE2 ?aE3 ?xE3 ?kE3 ?bE3 ?tE3 ?iE3 ?aE4 ?xE4 ?kE4 ?bE4 ?tE4 ?iE4 ?aE5 ?xE5 ?kE5 ?bE5 ?tE5 ?iE5 ?sE1_0 ?sE1_1 ?sE1_2 ?sE1_3 ?sE1_4 ?sE1_5 ?sE5_0 ?sE5_1 ?sE5_2 ?sE5_3 ?sE5_4 ?sE5_5 ?spG ?tkG ?ga1 ?gt1 ?hi1 ?fc1 ?mo1 ?vE1 ?ga5 ?gt5 ?hi5 ?fc5 ?mo5 ?vE5 ?a1 ?l1 ?c1 ?k1 ?a2 ?l2 ?c2 ?k2 ?a3 ?l3 ?c3 ?k3 ?dl3 ?a4 ?l4 ?c4 ?k4 ?a5 ?l5 ?c5 ?k5 ?a6 ?l6 ?c6 ?k6 ?a7 ?l7 ?c7 ?k7 ?a8 ?l8 ?c8 ?k8 ?a9 ?l9 ?c9 ?k9 ?a10 ?l10 ?c10 ?k10 ?a11 ?l11 ?c11 ?k11 ?a12 ?l12 ?c12 ?k12 ?a13 ?l13 ?c13 ?k13 ?a14 ?l14 ?c14 ?k14 ?a15 ?l15 ?c15 ?k15 ?a16 ?l16 ?c16 ?k16 ?a17 ?l17 ?c17 ?k17 ?a18 ?l18 ?c18 ?k18 ?a19 ?l19 ?c19 ?k19 ?z0 ?z1 ?z2 ?z3 ?z4 ?z5 ?z6 ?z7 ?z8 ?z9 ?z10 ?z11 ?z12
    (case aE0 => k_is)
    (case xE0 => k_exc)
    (case kE0 => k_is)
    (case bE0 => k_is)
    (case tE0 => k_is)
    (case iE0 => k_is)
    (case aE1 => k_is)
    (case xE1 => k_exc)
    (case kE1 => k_is)
    (case bE1 => k_is)
    (case tE1 => k_is)
    (case iE1 => k_is)
    (case aE2 => k_is)
    (case xE2 => k_exc)
    (case kE2 => k_is)
    (case bE2 => k_is)
    (case tE2 => k_is)
    (case iE2 => k_is)
    (case aE3 => k_is)
    (case xE3 => k_exc)
    (case kE3 => k_is)
    (case bE3 => k_is)
    (case tE3 => k_is)
    (case iE3 => k_is)
    (case aE4 => k_is)
    (case xE4 => k_exc)
    (case kE4 => k_is)
    (case bE4 => k_is)
    (case tE4 => k_is)
    (case iE4 => k_is)
    (case aE5 => k_is)
    (case xE5 => k_exc)
    (case kE5 => k_is)
    (case bE5 => k_is)
    (case tE5 => k_is)
    (case iE5 => k_is)
    (case sE1_0 => first | rfl | k_is)
    (case sE1_1 => first | rfl | k_is)
    (case sE1_2 => first | rfl | k_is)
    (case sE1_3 => first | rfl | k_is)
    (case sE1_4 => first | rfl | k_is)
    (case sE1_5 => first | rfl | k_is)
    (case sE5_0 => first | rfl | k_is)
    (case sE5_1 => first | rfl | k_is)
    (case sE5_2 => first | rfl | k_is)
    (case sE5_3 => first | rfl | k_is)
    (case sE5_4 => first | rfl | k_is)
    (case sE5_5 => first | rfl | k_is)
    (case spG => k_is)
    (case tkG => k_is)
    (case ga1 => k_is)
    (case gt1 => k_is)
    (case hi1 => k_is)
    (case fc1 => k_is)
    (case mo1 => k_is)
    (case vE1 => k_is)
    (case ga5 => k_is)
    (case gt5 => k_is)
    (case hi5 => k_is)
    (case fc5 => k_is)
    (case mo5 => k_is)
    (case vE5 => k_is)
    (case a1 => k_is)
    (case l1 => k_is)
    (case c1 => k_is)
    (case k1 => k_is)
    (case a2 => k_is)
    (case l2 => k_is)
    (case c2 => k_is)
    (case k2 => k_is)
    (case a3 => k_is)
    (case l3 => k_is)
    (case c3 => k_is)
    (case k3 => k_is)
    (case dl3 => k_is)
    (case a4 => k_is)
    (case l4 => k_is)
    (case c4 => k_is)
    (case k4 => k_is)
    (case a5 => k_is)
    (case l5 => k_is)
    (case c5 => k_is)
    (case k5 => k_is)
    (case a6 => k_is)
    (case l6 => k_is)
    (case c6 => k_is)
    (case k6 => k_is)
    (case a7 => k_is)
    (case l7 => k_is)
    (case c7 => k_is)
    (case k7 => k_is)
    (case a8 => k_is)
    (case l8 => k_is)
    (case c8 => k_is)
    (case k8 => k_is)
    (case a9 => k_is)
    (case l9 => k_is)
    (case c9 => k_is)
    (case k9 => k_is)
    (case a10 => k_is)
    (case l10 => k_is)
    (case c10 => k_is)
    (case k10 => k_is)
    (case a11 => k_is)
    (case l11 => k_is)
    (case c11 => k_is)
    (case k11 => k_is)
    (case a12 => k_is)
    (case l12 => k_is)
    (case c12 => k_is)
    (case k12 => k_is)
    (case a13 => k_is)
    (case l13 => k_is)
    (case c13 => k_is)
    (case k13 => k_is)
    (case a14 => k_is)
    (case l14 => k_is)
    (case c14 => k_is)
    (case k14 => k_is)
    (case a15 => k_is)
    (case l15 => k_is)
    (case c15 => k_is)
    (case k15 => k_is)
    (case a16 => k_is)
    (case l16 => k_is)
    (case c16 => k_is)
    (case k16 => k_is)
    (case a17 => k_is)
    (case l17 => k_is)
    (case c17 => k_is)
    (case k17 => k_is)
    (case a18 => k_is)
    (case l18 => k_is)
    (case c18 => k_is)
    (case k18 => k_is)
    (case a19 => k_is)
    (case l19 => k_is)
    (case c19 => k_is)
    (case k19 => k_is)
    (case z0 => k_is)
    (case z1 => k_is)
    (case z2 => k_is)
    (case z3 => k_is)
    (case z4 => k_is)
    (case z5 => k_is)
    (case z6 => k_is)
    (case z7 => k_is)
    (case z8 => k_is)
    (case z9 => k_is)
    (case z10 => k_is)
    (case z11 => k_is)
    (case z12 => k_is)
#print axioms PySem.Challenge.cw_joinedasks_k32_whole_meet_and_part_holds

