import PyProof.Rows.All
import Wide.All
import OpenK.AllK
import Wide.FinOn
import HandS.ForMost
import HandS.Defaults
import HandS.WideBits
import HandS.Conv
import HandS.IsInst
import HandS.RaiseMore
import HandS.SortInts
import HandS.Style
import HandS.Codes
import HandS.ForExc
import HandS.TryMany
import HandS.Flow
import KE.KEqSeq
import PyProof.ReprRoads
import KE.GoesMore
import KE.KDictZip
import PyProof.ListNew
import PyProof.StrLawsRepr
import HandS.TupAny
import HandS.TryOnly
import HandS.ExcIs
import PySem.Challenge.RW_joinedasks_k21_boards_and_asks_known
set_option Elab.async false
set_option linter.all false
set_option maxRecDepth 100000
set_option maxHeartbeats 4000000
set_option exponentiation.threshold 100000
namespace Toy
open PySem PySem.Spec PyProof.Rows L2
/-- a def of the text stands behind its name -/
structure Df (K : PySem.W.Frag) (mg : Str → Option Value) (x : Str) (st : Stmt) (ps : List Str) : Prop where
  ex : ∃ f fd, Fun K x x st f fd ∧ mg x = some (.ref f) ∧ Binds K fd ps []
theorem Df.of {K : PySem.W.Frag} {mg : Str → Option Value} {x : Str} {st : Stmt} {ps : List Str} {f : Addr} {oc : Value} {od an : Option Addr} {osl : Array (Option Value)} {kV doc pm cdv ct : Value}
    (l : K.lookup f = some ⟨oc, od, .func (PySem.W.fnOf x x (defArgs st) (defBody st) (defScope st) .none kV doc pm an cdv ct), osl⟩) (c : PySem.W.codeIn K cdv x = true) (k : PySem.W.keepIn K (.ref f) = true) (m : mg x = some (.ref f))
    (h : ∀ (kV doc pm : Value) (an : Option Addr) (cdv ct : Value) (us : List Value), us.length = ps.length → bindArgs (PySem.W.fnOf x x (defArgs st) (defBody st) (defScope st) .none kV doc pm an cdv ct) ⟨us, []⟩ = pure (ps.zip us)) : Df K mg x st ps :=
  ⟨_, _, fun_mk l c k, m, (fun_mk l c k).binds h⟩
end Toy
namespace Toy
open PySem PySem.Spec PyProof.Rows L2
/-- room for calls, and nothing is being shown (repr, str of containers ask that) -/
structure RoomG (k : Nat) (A : Around) : Prop where
  room : Room k A
  idle : A.guards = some []
theorem RoomG.less {j k : Nat} {A : Around} (r : RoomG k A) (h : j ≤ k) : RoomG j A := ⟨r.room.mono h, r.idle⟩
theorem RoomG.units {k : Nat} {A : Around} (r : RoomG k A) : A.units + 64 < cLine := r.room.units
theorem RoomG.in_ {k : Nat} {A : Around} (r : RoomG (k + 1) A) (env : Env) : RoomG k (A.deeper env) := ⟨r.room.deeper env, r.idle⟩
/-- a def's promise under such a call -/
structure FnG (P : Program) (w : World) (K : PySem.W.Frag) (mg : Str → Option Value) (base : Heap) (CX : CXT) (k : Nat) (f : Addr) (fd : FuncData) (ps : List Str) (sp : Sp) : Prop where
  arity : ∀ vs H Q E, sp vs H Q E → vs.length = ps.length
  go : ∀ {A : Around} {outer : List Env} {s : Shared} {H : Hp} {args : Args} {us : List Value} {vs : List V} {Q : VK} {E : XK}, RoomG k A → Env0 P w K mg base A outer s H →
    BindsTo s fd args (ps.zip us) → Vals vs us → sp vs H Q E → codeAny (model P w) A (.call (.ref f) args) (CR CX outer P w H s Q E) s
section
variable {P : Program} {w : World} {K : PySem.W.Frag} {mg : Str → Option Value} {base : Heap} {CX : CXT}
/-- a body that ends well ends the call well -/
theorem flow_end {N : List Str} {qual : Str} {scope : Scope} {f : Addr} {cd : Value} {A : Around} {outer : List Env} {s : Shared} {H : Hp} {Q : VK} {E : XK} {fl : Flow} {s' : Shared}
    (h : SP (cxOf CX P w K mg base N qual scope f cd A outer s H E) [] { nx := fun _ H' => Q .non H', rt := Q } fl s') :
    ∃ u, (fl = .next ∧ u = Value.none ∨ fl = .ret u) ∧ CE outer P w H s Q u s' := by
  cases fl with
  | next =>
    obtain ⟨σ, H1, J, q⟩ := h
    exact ⟨_, .inl ⟨rfl, rfl⟩, .non, H1, J.os, J.bare, J.base, J.hok, rfl, q⟩
  | ret u =>
    obtain ⟨v, σ, H1, J, r, q⟩ := h
    exact ⟨u, .inr rfl, v, H1, J.os, J.bare, J.base, J.hok, r, q⟩
  | brk =>
    obtain ⟨_, _, _, q⟩ := h
    cases q
  | cont =>
    obtain ⟨_, _, _, q⟩ := h
    cases q
/-- a def of the text, whatever its defaults -/
structure FunA (K : PySem.W.Frag) (x qual : Str) (st : Stmt) (f : Addr) (fd : FuncData) : Prop where
  ex : ∃ (oc : Value) (od : Option Addr) (dV kV doc pm : Value) (an : Option Addr) (cdv ct : Value) (osl : Array (Option Value)),
    fd = PySem.W.fnOf x qual (defArgs st) (defBody st) (defScope st) dV kV doc pm an cdv ct ∧ K.lookup f = some ⟨oc, od, .func fd, osl⟩ ∧ PySem.W.codeIn K cdv qual = true
theorem toA {K : PySem.W.Frag} {x qual : Str} {st : Stmt} {f : Addr} {fd : FuncData} (F : Fun K x qual st f fd) : FunA K x qual st f fd := by
  obtain ⟨oc, od, kV, doc, pm, an, cdv, ct, osl, e, lk, hcd⟩ := F.ex
  exact ⟨⟨oc, od, .none, kV, doc, pm, an, cdv, ct, osl, e, lk, hcd⟩⟩
theorem okGA {x qual : Str} {st : Stmt} {f : Addr} {fd : FuncData} {N ps : List Str} {k : Nat} {sp : Sp} (F : FunA K x qual st f fd) (S : FnScope N ps (defScope st)) (ar : ∀ vs H Q E, sp vs H Q E → vs.length = ps.length)
    (body : ∀ (cdv : Value) (A : Around) (outer : List Env) (s : Shared) (H : Hp) (vs : List V) (Q : VK) (E : XK), RoomG k (A.deeper (envOfC qual (defScope st) s.heap.objs.size f cdv)) → sp vs H Q E →
      ∃ t, PSs (cxOf CX P w K mg base N qual (defScope st) f cdv A outer s H E) (defBody st) t ∧ t { nx := fun _ H' => Q .non H', rt := Q } (start N vs) H) : FnG P w K mg base CX (k + 1) f fd ps sp := by
  obtain ⟨oc, od, dV, kV, doc, pm, an, cdv, ct, osl, rfl, lk, hcd⟩ := F.ex
  refine ⟨ar, ?_⟩
  intro A outer s H args us vs Q E room e0 hb rv hsp
  have kin : K.In s.heap := e0.mod.kin.keeps fun b o z => (e0.bs b o z).1
  have nolim : s.heap.NoLimit := e0.mod.nolimit.keeps fun b o z => (e0.bs b o z).1
  have kinds : ∀ y ∈ ps.zip us, (defScope st).names.lookup y.1 = some .local ∨ ((defScope st).names.lookup y.1 = some .cell ∧ ((cellsFrom (s.heap.objs.size + 1) (defScope st).names []).lookup y.1).isSome = true) := by
    rintro ⟨n, v⟩ hy
    exact (S.par n (List.of_mem_zip hy).1).imp _root_.id fun q => ⟨q, PySem.W.cellsFrom_some _ _ _ (.inl q)⟩
  refine codeAny_call_function room.room.depth (kin _ _ lk) rfl S.co S.gen rfl (PySem.W.codeRec_of kin hcd) (hb _ _ _ _ (wpAny_newFunctionEnv_cells S.kind kinds fun env he s1 inC => ?_))
  subst he
  obtain ⟨t, ht, hq⟩ := body cdv A outer s H vs Q E (room.in_ _) hsp
  refine ⟨nolim.keeps inC.toInCall.keep, codeAny_func (wpAny_mono (ht.run [] s1 (start N vs) H _ (inv_start S room.room.hd e0 (ar _ _ _ _ hsp) rv inC) hq) (fun fl s' z => ?_) fun e s' z => z)⟩
  obtain ⟨u, c, q⟩ := flow_end z
  rcases c with ⟨rfl, rfl⟩ | rfl
  · exact q
  · exact q
theorem okG0A {x qual : Str} {st : Stmt} {f : Addr} {fd : FuncData} {N ps : List Str} {k : Nat} {sp : Sp} (F : FunA K x qual st f fd) (S : FnScope N ps (defScope st)) (ar : ∀ vs H Q E, sp vs H Q E → vs.length = ps.length)
    (body : ∀ (cdv : Value) (A : Around) (outer : List Env) (s : Shared) (H : Hp) (vs : List V) (Q : VK) (E : XK), RoomG k (A.deeper (envOfC qual (defScope st) s.heap.objs.size f cdv)) → sp vs H Q E →
      ∃ t, PSs (cxOf CX0 P w K mg base N qual (defScope st) f cdv A outer s H E).nox (defBody st) t ∧ t { nx := fun _ H' => Q .non H', rt := Q } (start N vs) H) : FnG P w K mg base CX0 (k + 1) f fd ps sp :=
  okGA F S ar fun cdv A outer s H vs Q E hr hsp => (body cdv A outer s H vs Q E hr hsp).imp fun _ z => ⟨z.1.nox, z.2⟩
theorem okG {x qual : Str} {st : Stmt} {f : Addr} {fd : FuncData} {N ps : List Str} {k : Nat} {sp : Sp} (F : Fun K x qual st f fd) (S : FnScope N ps (defScope st)) (ar : ∀ vs H Q E, sp vs H Q E → vs.length = ps.length)
    (body : ∀ (cdv : Value) (A : Around) (outer : List Env) (s : Shared) (H : Hp) (vs : List V) (Q : VK) (E : XK), RoomG k (A.deeper (envOfC qual (defScope st) s.heap.objs.size f cdv)) → sp vs H Q E →
      ∃ t, PSs (cxOf CX P w K mg base N qual (defScope st) f cdv A outer s H E) (defBody st) t ∧ t { nx := fun _ H' => Q .non H', rt := Q } (start N vs) H) : FnG P w K mg base CX (k + 1) f fd ps sp :=
  okGA (toA F) S ar body
theorem okG0 {x qual : Str} {st : Stmt} {f : Addr} {fd : FuncData} {N ps : List Str} {k : Nat} {sp : Sp} (F : Fun K x qual st f fd) (S : FnScope N ps (defScope st)) (ar : ∀ vs H Q E, sp vs H Q E → vs.length = ps.length)
    (body : ∀ (cdv : Value) (A : Around) (outer : List Env) (s : Shared) (H : Hp) (vs : List V) (Q : VK) (E : XK), RoomG k (A.deeper (envOfC qual (defScope st) s.heap.objs.size f cdv)) → sp vs H Q E →
      ∃ t, PSs (cxOf CX0 P w K mg base N qual (defScope st) f cdv A outer s H E).nox (defBody st) t ∧ t { nx := fun _ H' => Q .non H', rt := Q } (start N vs) H) : FnG P w K mg base CX0 (k + 1) f fd ps sp :=
  okG0A (toA F) S ar body
end
section
variable {X : Cx} {CX : CXT} {k : Nat} {f : Addr} {fd : FuncData} {ps : List Str} {sp : Sp}
theorem run_G {pins : List (Addr × Obj)} {σ : L2.St} {H : Hp} {s : Shared} {Q : VK} {E : XK} {us : List Value} {vs : List V} (F : FnG X.prog X.w X.K X.mg X.base CX k f fd ps sp) (hr : RoomG k X.A) (hb : Binds X.K fd ps [])
    (out : ∀ e s', CX X.stack H s E e s' → X.xe e s') (I : Inv X pins σ H s) (r : Vals vs us) (h : sp vs H Q E) : wpAny (model X.prog X.w) X.A (call (.ref f) us) (EP X pins σ Q) X.xe s := by
  have n := (r.length).symm.trans (F.arity _ _ _ _ h)
  have b := hb s us I.kIn (by rw [List.append_nil, n])
  rw [List.append_nil] at b
  refine wpAny_call (codeAny_mono (F.go hr I.env0 b r h) ?_)
  rintro (e | fl) s' q
  · exact out e s' q
  · match fl, q with
    | .ret u, q => exact I.after q
/-- a def and its promise, by its name -/
structure Dn (P : Program) (w : World) (K : PySem.W.Frag) (mg : Str → Option Value) (base : Heap) (k : Nat) (x : Str) (ps : List Str) (sp : Sp) : Prop where
  ex : ∃ f fd, FnG P w K mg base CX0 k f fd ps sp ∧ PySem.W.keepIn K (.ref f) = true ∧ mg x = some (.ref f) ∧ Binds K fd ps []
/-- .. that may raise -/
structure Dx (P : Program) (w : World) (K : PySem.W.Frag) (mg : Str → Option Value) (base : Heap) (k : Nat) (x : Str) (ps : List Str) (sp : Sp) : Prop where
  ex : ∃ f fd, FnG P w K mg base (L2.CX P w) k f fd ps sp ∧ PySem.W.keepIn K (.ref f) = true ∧ mg x = some (.ref f) ∧ Binds K fd ps []
theorem Df.ok {P : Program} {w : World} {K : PySem.W.Frag} {mg : Str → Option Value} {base : Heap} {x : Str} {st : Stmt} (D : Df K mg x st ps)
    (h : ∀ f fd, Fun K x x st f fd → FnG P w K mg base CX0 k f fd ps sp) : Dn P w K mg base k x ps sp := by
  obtain ⟨f, fd, F, m, b⟩ := D.ex
  exact ⟨f, fd, h f fd F, F.kp, m, b⟩
theorem Df.okX {P : Program} {w : World} {K : PySem.W.Frag} {mg : Str → Option Value} {base : Heap} {x : Str} {st : Stmt} (D : Df K mg x st ps)
    (h : ∀ f fd, Fun K x x st f fd → FnG P w K mg base (L2.CX P w) k f fd ps sp) : Dx P w K mg base k x ps sp := by
  obtain ⟨f, fd, F, m, b⟩ := D.ex
  exact ⟨f, fd, h f fd F, F.kp, m, b⟩
variable {x : Str} {p pos : Pos} {e : Expr} {es : List Expr} {t : TA}
theorem pe_cD (D : Dn X.prog X.w X.K X.mg X.base k x ps sp) (hr : RoomG k X.A) (hg : Gl X x) (ha : PA X (e :: es) t) (hdb : (x == ("__debug__" : Str)) = false := by decide)
    (he : starEach (e :: es) X.env = (false, eval e X.env) :: starEach es X.env := by rfl) (hpl : (backTo pos (starEach es X.env)).any (·.1) = false := by rfl) : PE X (.Call (.Name x p) (e :: es) [] pos) (tCall sp [] E0 t) := by
  obtain ⟨f, fd, F, hk, hm, hb⟩ := D.ex
  refine ⟨fun pins s σ H Q I h => wpAny_Call_Name_kw (ld_glob I hg hm (PySem.W.callWith_K (h₀ := X.base) I.ok.mod.kin hk (thn (ha.run pos pins s σ H _ I h) fun us s1 ⟨vs, H1, I1, r, q⟩ => ⟨I1.kIn, ?_⟩) he hpl) hdb)⟩
  have q' : sp vs H1 Q E0 := by
    have z : sp (vs ++ []) H1 Q E0 := q
    rw [List.append_nil] at z
    exact z
  exact run_G F hr hb (fun _ _ z => z.elim) I1 r q'
theorem pe_cD0 (D : Dn X.prog X.w X.K X.mg X.base k x ps sp) (hr : RoomG k X.A) (hg : Gl X x) (hdb : (x == ("__debug__" : Str)) = false := by decide) : PE X (.Call (.Name x p) [] [] pos) (tCall sp [] E0 tNil) := by
  obtain ⟨f, fd, F, hk, hm, hb⟩ := D.ex
  refine ⟨fun pins s σ H Q I h => wpAny_Call_Name_kw (ld_glob I hg hm (PySem.W.callWith_K0 I.kIn hk (run_G (us := []) F hr hb (fun _ _ z => z.elim) I .nil h)) hdb)⟩
/-- a def with defaults: dvs fill up -/
structure Dfd (K : PySem.W.Frag) (mg : Str → Option Value) (x : Str) (st : Stmt) (ps : List Str) (dvs : List V) : Prop where
  ex : ∃ (f : Addr) (fd : FuncData) (ds : List Value), FunA K x x st f fd ∧ PySem.W.keepIn K (.ref f) = true ∧ mg x = some (.ref f) ∧ Binds K fd ps ds ∧ Vals dvs ds
theorem Dfd.of {K : PySem.W.Frag} {mg : Str → Option Value} {x : Str} {st : Stmt} {ps : List Str} {dvs : List V} {f T : Addr} {oc : Value} {od an : Option Addr} {osl : Array (Option Value)} {kV doc pm cdv ct : Value} {o : Obj} {its : List Value} {n m : Nat}
    (l : K.lookup f = some ⟨oc, od, .func (PySem.W.fnOf x x (defArgs st) (defBody st) (defScope st) (.ref T) kV doc pm an cdv ct), osl⟩) (c : PySem.W.codeIn K cdv x = true) (k : PySem.W.keepIn K (.ref f) = true) (mx : mg x = some (.ref f))
    (lT : K.lookup T = some o) (oT : o.data = .seq its.toArray m) (rT : Vals dvs its) (hn : n + dvs.length = ps.length)
    (h : ∀ (us : List Value), us.length = n → ∃ kk, bindArgs (PySem.W.fnOf x x (defArgs st) (defBody st) (defScope st) (.ref T) kV doc pm an cdv ct) ⟨us, []⟩ = seqItems? (.ref T) >>= kk ∧ kk (some its.toArray) = pure (ps.zip (us ++ its))) : Dfd K mg x st ps dvs := by
  refine ⟨f, _, its, ⟨⟨_, _, _, _, _, _, _, _, _, _, rfl, l, c⟩⟩, k, mx, fun s us X hlen => ?_, rT⟩
  have l1 := rT.length
  have l2 : us.length = n := by
    rw [List.length_append] at hlen
    omega
  obtain ⟨kk, e1, e2⟩ := h us l2
  refine BindsTo.of_looks fun M => ?_
  rw [e1]
  exact looks_items X lT oT (.of_pure e2)
/-- .. all parameters given -/
theorem Dfd.ofAll {K : PySem.W.Frag} {mg : Str → Option Value} {x : Str} {st : Stmt} {ps : List Str} {f T : Addr} {oc : Value} {od an : Option Addr} {osl : Array (Option Value)} {kV doc pm cdv ct : Value} {o : Obj} {its : List Value} {n m : Nat}
    (l : K.lookup f = some ⟨oc, od, .func (PySem.W.fnOf x x (defArgs st) (defBody st) (defScope st) (.ref T) kV doc pm an cdv ct), osl⟩) (c : PySem.W.codeIn K cdv x = true) (k : PySem.W.keepIn K (.ref f) = true) (mx : mg x = some (.ref f))
    (lT : K.lookup T = some o) (oT : o.data = .seq its.toArray m) (hn : n = ps.length)
    (h : ∀ (us : List Value), us.length = n → ∃ kk, bindArgs (PySem.W.fnOf x x (defArgs st) (defBody st) (defScope st) (.ref T) kV doc pm an cdv ct) ⟨us, []⟩ = seqItems? (.ref T) >>= kk ∧ kk (some its.toArray) = pure (ps.zip us)) : Dfd K mg x st ps [] := by
  refine ⟨f, _, [], ⟨⟨_, _, _, _, _, _, _, _, _, _, rfl, l, c⟩⟩, k, mx, fun s us X hlen => ?_, .nil⟩
  have l2 : us.length = n := by
    rw [List.append_nil] at hlen
    omega
  obtain ⟨kk, e1, e2⟩ := h us l2
  refine BindsTo.of_looks fun M => ?_
  rw [e1, List.append_nil]
  exact looks_items X lT oT (.of_pure e2)
/-- .. and its promise -/
structure DnD (P : Program) (w : World) (K : PySem.W.Frag) (mg : Str → Option Value) (base : Heap) (k : Nat) (x : Str) (ps : List Str) (dvs : List V) (sp : Sp) : Prop where
  ex : ∃ (f : Addr) (fd : FuncData) (ds : List Value), FnG P w K mg base CX0 k f fd ps sp ∧ PySem.W.keepIn K (.ref f) = true ∧ mg x = some (.ref f) ∧ Binds K fd ps ds ∧ Vals dvs ds
theorem Dfd.ok {P : Program} {w : World} {K : PySem.W.Frag} {mg : Str → Option Value} {base : Heap} {x : Str} {st : Stmt} {dvs : List V} (D : Dfd K mg x st ps dvs)
    (h : ∀ f fd, FunA K x x st f fd → FnG P w K mg base CX0 k f fd ps sp) : DnD P w K mg base k x ps dvs sp := by
  obtain ⟨f, fd, ds, F, kp, m, b, d⟩ := D.ex
  exact ⟨f, fd, ds, h f fd F, kp, m, b, d⟩
theorem run_Gd {pins : List (Addr × Obj)} {σ : L2.St} {H : Hp} {s : Shared} {Q : VK} {E : XK} {us ds : List Value} {vs dvs : List V} (F : FnG X.prog X.w X.K X.mg X.base CX k f fd ps sp) (hr : RoomG k X.A) (hb : Binds X.K fd ps ds) (hd : Vals dvs ds)
    (out : ∀ e s', CX X.stack H s E e s' → X.xe e s') (I : Inv X pins σ H s) (r : Vals vs us) (h : sp (vs ++ dvs) H Q E) : wpAny (model X.prog X.w) X.A (call (.ref f) us) (EP X pins σ Q) X.xe s := by
  have r2 : Vals (vs ++ dvs) (us ++ ds) := r.append hd
  have n : (us ++ ds).length = ps.length := by rw [← r2.length]; exact F.arity _ _ _ _ h
  refine wpAny_call (codeAny_mono (F.go hr I.env0 (hb s us I.kIn n) r2 h) ?_)
  rintro (e | fl) s' q
  · exact out e s' q
  · match fl, q with
    | .ret u, q => exact I.after q
theorem pe_cDd {dvs : List V} (D : DnD X.prog X.w X.K X.mg X.base k x ps dvs sp) (hr : RoomG k X.A) (hg : Gl X x) (ha : PA X (e :: es) t) (hdb : (x == ("__debug__" : Str)) = false := by decide)
    (he : starEach (e :: es) X.env = (false, eval e X.env) :: starEach es X.env := by rfl) (hpl : (backTo pos (starEach es X.env)).any (·.1) = false := by rfl) : PE X (.Call (.Name x p) (e :: es) [] pos) (tCall sp dvs E0 t) := by
  obtain ⟨f, fd, ds, F, hk, hm, hb, hd⟩ := D.ex
  refine ⟨fun pins s σ H Q I h => wpAny_Call_Name_kw (ld_glob I hg hm (PySem.W.callWith_K (h₀ := X.base) I.ok.mod.kin hk (thn (ha.run pos pins s σ H _ I h) fun us s1 ⟨vs, H1, I1, r, q⟩ => ⟨I1.kIn, ?_⟩) he hpl) hdb)⟩
  exact run_Gd F hr hb hd (fun _ _ z => z.elim) I1 r q
/-- a call within a try: what is raised is wished at the slots -/
theorem pe_cX {E : L2.St → XK} (D : Dx X.prog X.w X.K X.mg X.base k x ps sp) (hr : RoomG k X.A) (hg : Gl X x) (hx : ∀ σ, PassesAt (L2.CX X.prog X.w) X σ (E σ)) (ha : PA X (e :: es) t) (hdb : (x == ("__debug__" : Str)) = false := by decide)
    (he : starEach (e :: es) X.env = (false, eval e X.env) :: starEach es X.env := by rfl) (hpl : (backTo pos (starEach es X.env)).any (·.1) = false := by rfl) : PE X (.Call (.Name x p) (e :: es) [] pos) (tCallS sp E t) := by
  obtain ⟨f, fd, F, hk, hm, hb⟩ := D.ex
  exact ⟨fun pins s σ H Q I h => wpAny_Call_Name_kw (ld_glob I hg hm (PySem.W.callWith_K (h₀ := X.base) I.ok.mod.kin hk (thn (ha.run pos pins s σ H _ I h) fun us s1 ⟨vs, H1, I1, r, q⟩ =>
    ⟨I1.kIn, run_G F hr hb (fun e s' z => hx σ pins H1 s1 e s' I1 z) I1 r q⟩) he hpl) hdb)⟩
/-- repr of what is data -/
def rRepr (K : PySem.W.Frag) : List V → Hp → VK → Prop := fun xs H Q => ∃ (x : V) (d : PyData), xs = [x] ∧ Dp K H x d ∧ d.showable = true ∧ d.depth ≤ 60 ∧ d.shown.length ≤ sizeLine ∧ Q (.str d.shown) H
mutual
theorem dp_noDict {K : PySem.W.Frag} {H : Hp} : ∀ (d : PyData) (x : V), Dp K H x d → d.hasDict = false
  | .none, _, _ => rfl
  | .bool _, _, _ => rfl
  | .int _, _, _ => rfl
  | .str _, _, _ => rfl
  | .list ds, _, h => by
    cases h with
    | lst _ ha => simpa [PyData.hasDict] using dp_noDicts ds _ ha
  | .tuple ds, _, h => by
    cases h with
    | tup _ ha => simpa [PyData.hasDict] using dp_noDicts ds _ ha
  | .dict _, _, h => by cases h
theorem dp_noDicts {K : PySem.W.Frag} {H : Hp} : ∀ (ds : List PyData) (xs : List V), DpAll K H xs ds → PyData.hasDictAll ds = false
  | [], _, _ => by simp [PyData.hasDictAll]
  | d :: ds, _, h => by
    cases h with
    | cons a b => simp [PyData.hasDictAll, dp_noDict d _ a, dp_noDicts ds _ b]
end
theorem reprK {K : PySem.W.Frag} (hr : RoomG k X.A) (eK : X.K = K := by rfl) : CallR X (.builtin "repr") (rRepr K) := by
  cases eK
  intro pins s σ H xs us Q I r h
  obtain ⟨x, d, rfl, hd, hs, hdep, hz, q⟩ := h
  obtain ⟨u, rfl, rx⟩ := vals1 r
  obtain ⟨as, rd⟩ := Dp.reads I d x u hd rx
  have hu := hr.units
  have nd := dp_noDict d x hd
  cases hd with
  | non => cases rx; exact PySem.P.repr_of_none ⟨.str _, H, I.tok _, ⟨_, rfl⟩, q⟩
  | bl b => cases rx; exact PySem.P.repr_of_bool ⟨.str _, H, I.tok _, ⟨_, rfl⟩, q⟩
  | int i => obtain ⟨t, rfl⟩ := rx; exact PySem.P.repr_of_int (of_decide_eq_true (by simpa [PyData.showable] using hs)) ⟨.str _, H, I.tok _, ⟨_, rfl⟩, q⟩
  | str z => obtain ⟨t, rfl⟩ := rx; exact PySem.P.repr_of_str ⟨.str _, H, I.tok _, ⟨_, rfl⟩, q⟩ hz
  | lst hq ha =>
    cases rx
    refine repr_of_reads' rd hs (PyData.noDict_hsm nd) hr.idle (by omega) (fun _ _ z => z) (fun h' u tk hk => ⟨.str _, H, I.kept hk, ⟨_, rfl⟩, q⟩) hz
  | tup hq ha =>
    cases rx
    refine repr_of_reads' rd hs (PyData.noDict_hsm nd) hr.idle (by omega) (fun _ _ z => z) (fun h' u tk hk => ⟨.str _, H, I.kept hk, ⟨_, rfl⟩, q⟩) hz
end
end Toy
namespace Toy
open PySem PySem.Spec PyProof.Rows L2
/-- what was tracked stays, but for one object -/
def But (p : Addr) (H H' : Hp) : Prop := ∀ b o, b ≠ p → H b = some o → H' b = some o
theorem But.refl {p : Addr} {H : Hp} : But p H H := fun _ _ _ h => h
theorem But.trans {p : Addr} {H H1 H2 : Hp} (a : But p H H1) (b : But p H1 H2) : But p H H2 := fun c o n h => b c o n (a c o n h)
theorem But.free {p : Addr} {H H' : Hp} (e : But p H H') {l : Addr} (n : l ≠ p) (h : H' l = Option.none) : H l = Option.none := by
  cases q : H l with
  | none => rfl
  | some o =>
    rw [e l o n q] at h
    cases h
theorem same_but {p : Addr} {H H' : Hp} (a : Same H H') : But p H H' := fun c o _ h => a c o h
theorem But.upd {p : Addr} {H : Hp} {o : HO} : But p H (upd H p o) := fun b u n h => by rw [upd_ne n]; exact h
theorem same_new {H : Hp} {p : Addr} (h : H p = none) (o : HO) : Same H (upd H p o) := fun b u q => by rw [upd_ne (ne_of_none q h)]; exact q
theorem but_tup {p : Addr} {K : PySem.W.Frag} {H H' : Hp} {a : Addr} {xs ys : List V} (e : But p H H') (hp : H p = some (.lst ys)) (h : SqT K H a xs) : SqT K H' a xs := by
  rcases h with (h | ⟨o, h⟩) | h
  · exact .inl (.inl (e _ _ (ne_of h hp (by intro z; cases z)) h))
  · exact .inl (.inr ⟨o, e _ _ (ne_of h hp (by intro z; cases z)) h⟩)
  · exact .inr h
theorem same_tup {K : PySem.W.Frag} {H H' : Hp} {a : Addr} {xs : List V} (e : Same H H') (h : SqT K H a xs) : SqT K H' a xs := by
  rcases h with (h | ⟨o, h⟩) | h
  · exact .inl (.inl (e _ _ h))
  · exact .inl (.inr ⟨o, e _ _ h⟩)
  · exact .inr h
/-- the script stays -/
theorem but_seq {p : Addr} {K : PySem.W.Frag} {H H' : Hp} {a : Addr} {xs : List V} (e : But p H H') (n : a ≠ p) (h : SqL K H a xs) : SqL K H' a xs := by
  rcases h with (h | ⟨o, h⟩) | h
  · exact .inl (.inl (e _ _ n h))
  · exact .inl (.inr ⟨o, e _ _ n h⟩)
  · exact .inr h
theorem small {n : Nat} (h : n ≤ 1000) : n ≤ sizeLine := Nat.le_of_lt (small1000 h)
theorem log_lt {i : Int} {n : Nat} (h0 : 0 < n) (h : i.natAbs < 2 ^ n) : i.natAbs.log2 < n := PySem.Flt.log2_lt_of h0 h
theorem divp_small {i j : Int} (hj : 0 < j) (h : j < 2 ^ 8000) : CDivP i j := by
  refine ⟨hj, PyProof.noPylong_of_log2 ?_⟩
  exact Nat.lt_trans (log_lt (n := 8000) (by decide) (by omega)) (by decide)
end Toy
namespace Toy
open PySem PySem.Spec PyProof.Rows L2
theorem ifT {c : Bool} {A B : Prop} (hc : c = true) (h : A) : if c = true then A else B := by rw [if_pos hc]; exact h
theorem ifF {c : Bool} {A B : Prop} (hc : c = false) (h : B) : if c = true then A else B := by rw [hc]; exact iteF h
theorem pj {j : Int} (h : decide ((0 : Int) < j) = true := by decide) : 0 < j := of_decide_eq_true h
theorem sz {xs : List V} (h : Nat.ble xs.length 1000 = true := by rfl) : xs.length ≤ sizeLine := small (Nat.le_of_ble_eq_true h)
theorem but_same {p : Addr} {H H1 H2 : Hp} (n : H p = none) (a : Same H H1) (b : But p H1 H2) : Same H H2 := fun c o h => b c o (ne_of_none h n) (a c o h)
/-- two ways of a value meet -/
theorem ifE {ta tb : TE} {σ : L2.St} {H : Hp} {Q : VK} {b : Bool} (R : V → Hp → Prop) (h : ∀ v H', R v H' → Q v H') (h1 : b = true → ∀ Q' : VK, (∀ v H', R v H' → Q' v H') → ta σ H Q') (h2 : b = false → ∀ Q' : VK, (∀ v H', R v H' → Q' v H') → tb σ H Q') :
    if b = true then ta σ H Q else tb σ H Q := by
  cases b with
  | true => exact iteT (h1 rfl Q h)
  | false => exact iteF (h2 rfl Q h)
theorem mulx {i j : Int} (a b : Nat) (ha : i.natAbs < 2 ^ a) (hb : j.natAbs < 2 ^ b) (h : a + b ≤ 134217728 := by decide) : CMulX i j := mulx_ok ha hb h
end Toy
namespace Toy
open PySem PySem.Spec PyProof.Rows L2
theorem qi {Q : VK} {H : Hp} {a b : Int} (q : Q (.int a) H) (e : a = b) : Q (.int b) H := e ▸ q
end Toy
namespace Toy
open PySem PySem.Spec PyProof.Rows L2
/-- the written part by its letter -/
theorem kk {α : Sort _} {P : α → Prop} {F : PySem.W.Frag → α} {K0 K : PySem.W.Frag} (h : P (F K0)) (e : K0 = K := by rfl) : P (F K) := e ▸ h
def rLen (K : PySem.W.Frag) : List V → Hp → VK → Prop := fun xs H Q => ∃ p ys, xs = [.ref p] ∧ (SqL K H p ys ∨ SqT K H p ys) ∧ Q (.int ys.length) H
theorem lenK {X : Cx} {K : PySem.W.Frag} (e : X.K = K := by rfl) : CallR X (.builtin "len") (rLen K) := by cases e; exact call_len_seq
def rLstOf (K : PySem.W.Frag) : List V → Hp → VK → Prop := fun xs H Q => ∃ p ys, xs = [.ref p] ∧ (SqL K H p ys ∨ SqT K H p ys) ∧ ∀ l, H l = none → Q (.ref l) (upd H l (.lst ys))
theorem lstOfK {X : Cx} {K : PySem.W.Frag} (e : X.K = K := by rfl) : CallR X (.type "list") (rLstOf K) := by cases e; exact call_list_of
def rTupOf (K : PySem.W.Frag) : List V → Hp → VK → Prop := fun xs H Q => ∃ p ys, xs = [.ref p] ∧ ((SqL K H p ys ∧ ∀ l, H l = none → Q (.ref l) (upd H l (.tup ys))) ∨ (SqT K H p ys ∧ Q (.ref p) H))
theorem tupOfK {X : Cx} {K : PySem.W.Frag} (e : X.K = K := by rfl) : CallR X (.type "tuple") (rTupOf K) := by cases e; exact call_tuple_of
theorem dec_ne {α : Type} [DecidableEq α] {a b : α} (h : a = b) : (!decide (a = b)) = false := by rw [decide_eq_true h] <;> rfl
end Toy
namespace Toy
open PySem PySem.Spec PyProof.Rows L2
/-- a tuple of the written part; a tuple that never changes -/
def KTup (K : PySem.W.Frag) (a : Addr) (xs : List V) : Prop := ∃ (o : Obj) (its : Array Value) (n : Nat), K.lookup a = some o ∧ o.cls = .type "tuple" ∧ o.data = .seq its n ∧ its.size ≤ sizeLine ∧ Vals xs its.toList
def TupAt (K : PySem.W.Frag) (H : Hp) (a : Addr) (xs : List V) : Prop := H a = some (.tup xs) ∨ KTup K a xs
theorem TupAt.sq {K : PySem.W.Frag} {H : Hp} {a : Addr} {xs : List V} (h : TupAt K H a xs) : SqT K H a xs := by
  rcases h with h | h
  · exact SqT.of h
  · exact .inr h
theorem TupAt.ty {K : PySem.W.Frag} {H : Hp} {a : Addr} {xs : List V} (h : TupAt K H a xs) : TyX K H (.ref a) (.type "tuple") := by
  rcases h with h | ⟨o, its, n, h1, h2, _⟩
  · exact .base (.tup h)
  · exact .kTuple h1 h2
theorem TupAt.same {K : PySem.W.Frag} {H H' : Hp} {a : Addr} {xs : List V} (e : Same H H') (h : TupAt K H a xs) : TupAt K H' a xs := h.imp (e _ _) id
theorem TupAt.but {K : PySem.W.Frag} {H H' : Hp} {a p : Addr} {xs ys : List V} (e : But p H H') (hp : H p = some (.lst ys)) (h : TupAt K H a xs) : TupAt K H' a xs := h.imp (fun h => e _ _ (ne_of h hp (by intro z; cases z)) h) id
end Toy
namespace Toy
open PySem PySem.Spec PyProof.Rows L2
theorem ints_dp {K : PySem.W.Frag} {H : Hp} : ∀ ns : List Int, DpAll K H (ns.map V.int) (ns.map PyData.int)
  | [] => .nil
  | n :: r => .cons (.int n) (ints_dp r)
theorem ints_sh (ns : List Int) : SeqAt.shaped (.list (ns.map PyData.int)) = true := PySem.W.ke_shaped_ints ns
theorem ints_refl (ns : List Int) : PyData.eqv (.list (ns.map PyData.int)) (.list (ns.map PyData.int)) = true := SeqAt.eqv_refl _ (SeqAt.canLay_of_shaped (ints_sh ns))
theorem lst_dp {K : PySem.W.Frag} {H : Hp} {a : Addr} {ns : List Int} (h : SqL K H a (ns.map V.int)) : Dp K H (.ref a) (.list (ns.map PyData.int)) := .lst h (ints_dp ns)
theorem tupI_dp {K : PySem.W.Frag} {H : Hp} {a : Addr} {ns : List Int} (h : SqT K H a (ns.map V.int)) : Dp K H (.ref a) (.tuple (ns.map PyData.int)) := .tup h (ints_dp ns)
theorem tupI_sh (ns : List Int) : SeqAt.shaped (.tuple (ns.map PyData.int)) = true := ints_sh ns
theorem tupI_refl (ns : List Int) : PyData.eqv (.tuple (ns.map PyData.int)) (.tuple (ns.map PyData.int)) = true := SeqAt.eqv_refl _ (SeqAt.canLay_of_shaped (tupI_sh ns))
theorem cut_map (us : List Int) (lo hi : Option Int) : ∃ ws : List Int, cutV (us.map V.int) lo hi = ws.map V.int ∧ ws.length ≤ us.length ∧ ∀ x ∈ ws, x ∈ us := by
  refine ⟨(us.drop (HT.sIx (us.map V.int).length 0 lo)).take (HT.sIx (us.map V.int).length (us.map V.int).length hi - HT.sIx (us.map V.int).length 0 lo), ?_, ?_, fun x hx => List.mem_of_mem_drop (List.mem_of_mem_take hx)⟩
  · unfold cutV; rw [List.map_take, List.map_drop]
  · rw [List.length_take, List.length_drop]; omega
theorem at_map {us : List Int} {i : Nat} {y : V} (h : (us.map V.int)[i]? = some y) : ∃ x : Int, y = .int x ∧ us[i]? = some x := by
  rw [List.getElem?_map] at h
  cases e : us[i]? with
  | none => rw [e] at h; cases h
  | some x => rw [e] at h; exact ⟨x, (Option.some.inj h).symm, rfl⟩
end Toy
namespace Toy
open PySem PySem.Spec PyProof.Rows L2
/-- the heap in which the script alone stands, unless the text's own part holds it -/
def scriptH (K : PySem.W.Frag) (a : Addr) (o : Obj) (ns : List Int) : Hp := fun c => if (K.lookup a).isNone = true ∧ c = a then some (.frz o (.lst (ns.map V.int))) else none
theorem scriptH_none {K : PySem.W.Frag} {a b : Addr} {o : Obj} {ns : List Int} : scriptH K a o ns b = none ∨ (b = a ∧ K.lookup a = none ∧ scriptH K a o ns b = some (.frz o (.lst (ns.map V.int)))) := by
  unfold scriptH
  by_cases c : (K.lookup a).isNone = true ∧ b = a
  · exact .inr ⟨c.2, Option.isNone_iff_eq_none.mp c.1, if_pos c⟩
  · exact .inl (if_neg c)
theorem law_G {P : Program} {w : World} {K : PySem.W.Frag} {mg mb : Str → Option Value} {k : Nat} {fa a : Addr} {fd : FuncData} {x : Str} {sp : Sp} {s : Shared} {vs : List Value} {ns : List Int}
    (KX : K.In s.heap) (hns : s.heap.Ns mainGlobals mg) (hb : s.heap.Ns builtinsNs mb) (hbb : ∀ x : Str, x ≠ "__name__" → mb x = bootBuiltins x) (hlim : s.heap.NoLimit) (hg : s.gens = #[])
    (ha : s.heap.get? a = some { cls := .type "list", data := .seq vs.toArray }) (hi : IntsAre vs ns) (hl : ns.length ≤ sizeLine) (hr : Room k PySem.callerA)
    (F : ∀ base : Heap, K.In base → base.Ns mainGlobals mg → FnG P w K mg base CX0 k fa fd [x] sp) (hbind : ∀ (s : Shared) (u : Value), BindsTo s fd ⟨[u], []⟩ [(x, u)])
    (hsp : ∀ H : Hp, SqL K H a (ns.map V.int) → sp [.ref a] H (fun v _ => v = .bl true) fun _ _ _ => False) :
    codeAny (model P w) PySem.callerA (.call (.ref fa) ⟨[.ref a], []⟩) (fun r s' => r = .ok (.ret (.bool true)) ∧ OldK s.heap s'.heap ∧ s'.os = s.os ∧ AllBare s'.gens) s := by
  let H : Hp := scriptH K a { cls := .type "list", data := .seq vs.toArray } ns
  have hH : ∀ b, H b = none ∨ (b = a ∧ K.lookup a = none ∧ H b = some (.frz { cls := .type "list", data := .seq vs.toArray } (.lst (ns.map V.int)))) := fun b => scriptH_none
  have rv := vals_ints hi
  have hok : HOk P w H s.heap := by
    intro b u e
    rcases hH b with z | ⟨rfl, _, z⟩
    · rw [z] at e; cases e
    · rw [z] at e
      cases e
      exact ⟨ha, by rw [List.length_map]; exact hl, vs, _, rv, ha⟩
  have hS : SqL K H a (ns.map V.int) := by
    cases q : K.lookup a with
    | none => exact .inl (.inr ⟨_, show scriptH K a _ ns a = _ from if_pos ⟨by rw [q] <;> rfl, rfl⟩⟩)
    | some o =>
      have e := KX a o q
      rw [ha] at e
      cases e
      exact .inr ⟨_, vs.toArray, _, q, rfl, rfl, rfl, by rw [List.size_toArray, hi.length]; exact hl, by simpa using rv⟩
  -- what is no list is not the script
  have notA : ∀ {b : Addr} {o : Obj} {es : Array DictEntry} {ep : Nat}, s.heap.get? b = some o → o.data = .dict es ep → H b = none := by
    intro b o es ep e d
    rcases hH b with z | ⟨rfl, _, _⟩
    · exact z
    · rw [ha] at e
      cases e
      cases (show Data.seq vs.toArray _ = Data.dict es ep from d)
  have ns' : ∀ {b : Addr} {m : Str → Option Value}, s.heap.Ns b m → (hidT s.heap H).Ns b m := by
    rintro b m ⟨o, es, ep, e, d, r⟩
    exact ⟨o, es, ep, hidT_get e (notA e d), d, r⟩
  have kin' : K.In (hidT s.heap H) := by
    intro b o e
    refine hidT_get (KX b o e) ?_
    rcases hH b with z | ⟨rfl, q, _⟩
    · exact z
    · rw [q] at e; cases e
  have md : Mod K mg (hidT s.heap H) := ⟨kin', ns' hns, ⟨mb, ns' hb, hbb⟩, hlim.imp fun _ z => ⟨ns' z.1, z.2⟩⟩
  have e0 : Env0 P w K mg (hidT s.heap H) PySem.callerA [] s H := ⟨rfl, md, fun _ _ z => of_hidT z, Nat.le_of_eq (hidT_size _ _), trivial, (by intro b z; cases z), hok, .of_eq hg⟩
  refine codeAny_mono ((F _ kin' (ns' hns)).go (us := [.ref a]) (vs := [.ref a]) ⟨hr, rfl⟩ e0 (hbind s (.ref a)) (.cons rfl .nil) (hsp H hS)) ?_
  rintro (e | fl) s' q
  · exact q.elim
  match fl, q with
  | .ret u, ⟨v, H', os, bare, un, ok', r', q⟩ =>
    have q' : v = .bl true := q
    subst q'
    obtain rfl : u = Value.bool true := r'
    refine ⟨rfl, OldK.of_keep fun b o e => ?_, os, bare⟩
    rcases hH b with z | ⟨_, _, z⟩
    · exact un.keep b o e z (by intro y; cases y) (by intro y; cases y)
    · have z1 := (hok b _ z).1
      have z2 := (ok' b _ (un.frzs b _ _ z)).1
      rw [e] at z1
      cases z1
      exact z2
theorem walk_G {l : PySem.W.OpenLaw} {n k : Nat} {q : Program} {loose : List Str} {XP : (Str → Option Value) → Heap → Prop} {YP : World → Heap → Prop} {d : DefRec} {K : Params → PySem.W.Frag} {sp : PySem.W.Frag → Sp} {x : Str}
    (hn : l.most = some n) (hn2 : n ≤ sizeLine) (hdf : d.params.defaults = []) (hr : Room k PySem.callerA) (hY : ∀ (w : World) (h : Heap), YP w h → (K w.params).In h)
    (F : ∀ (w : World) (mg : Str → Option Value) (fa : Addr) (h : Heap), (K w.params).In h → h.Ns mainGlobals mg → mg d.name = some (.ref fa) →
      ∃ fd : FuncData, (∀ (s : Shared) (u : Value), BindsTo s fd ⟨[u], []⟩ [(x, u)]) ∧ ∀ base : Heap, (K w.params).In base → base.Ns mainGlobals mg → FnG l.prog w (K w.params) mg base CX0 k fa fd [x] (sp (K w.params)))
    (hsp : ∀ (K : PySem.W.Frag) (H : Hp) (a : Addr) (ns : List Int), ns.length ≤ n → SqL K H a (ns.map V.int) → sp K [.ref a] H (fun v _ => v = .bl true) fun _ _ _ => False) :
    PySem.W.WalkO q loose XP YP l.row.toRowW d [] (fun f vs => PySem.call f vs) :=
  Att.attach_call hn hdf fun w s0 s1 mg mb fa o pm cd doc a vs ns G Y ho hd hcd hmg hobj hints hlen hg => by
    have KX := hY w _ Y
    obtain ⟨fd, hbd, hF⟩ := F w mg fa _ KX G.T.g hmg
    exact law_G KX G.T.g G.T.b G.T.builtins G.T.nolimit hg hobj hints (Nat.le_trans hlen hn2) hr hF hbd fun H hS => hsp _ H a ns hlen hS
end Toy
namespace Toy
open PySem PySem.Spec PyProof.Rows L2
/-! ### how long a shown datum is -/
mutual
def cst : PyData → Nat
  | .none => 5
  | .bool _ => 5
  | .int _ => 1921
  | .str x => (reprText x).length
  | .list xs => csts xs + 4
  | .tuple xs => csts xs + 4
  | .dict _ => 0
def csts : List PyData → Nat
  | [] => 0
  | x :: xs => cst x + 4 + csts xs
end
theorem tupT_len (ts : List Str) : (tupleText ts).length ≤ piled ts + 4 := by
  unfold tupleText
  rw [strLen_append, strLen_append]
  have e1 : ((("(" : String) : Str)).length = 1 := rfl
  have e3 : (((if ts.length == 1 then ",)" else ")" : String) : Str)).length ≤ 2 := by split <;> decide +kernel
  by_cases h : ts = []
  · subst h; decide +kernel
  · have := join_length_add ts h; omega
theorem txtFrom_len : ∀ (ts : List Str) (k : Nat) (acc : Str), (textFrom k acc ts).length ≤ acc.length + piled ts
  | [], k, acc => Nat.le_add_right _ _
  | t :: r, k, acc => by
    have h := txtFrom_len r (k + 1) (acc ++ (if k > 0 then ", " else "" : String) ++ t)
    have e : (acc ++ (if k > 0 then ", " else "" : String) ++ t).length = acc.length + (if k > 0 then 2 else 0) + t.length := by
      rw [strLen_append, strLen_append]
      split <;> rfl
    rw [e] at h
    rw [piled_cons]
    have h2 : (textFrom k acc (t :: r)).length = (textFrom (k + 1) (acc ++ (if k > 0 then ", " else "" : String) ++ t) r).length := rfl
    rw [h2]
    have e2 : (if k > 0 then 2 else 0) ≤ 2 := by split <;> omega
    omega
theorem lstT_len (ts : List Str) : (listText ts).length ≤ piled ts + 4 := by
  unfold listText
  rw [strLen_append]
  have h := txtFrom_len ts 0 "["
  have e1 : ((("[" : String) : Str)).length = 1 := rfl
  have e2 : ((("]" : String) : Str)).length = 1 := rfl
  omega
mutual
theorem shown_le : ∀ d : PyData, d.showable = true → d.hasDict = false → d.shown.length ≤ cst d
  | .none, _, _ => by show (("None" : String) : Str).length ≤ 5; decide +kernel
  | .bool b, _, _ => by cases b <;> (show _ ≤ 5; decide +kernel)
  | .int i, h, _ => PyProof.Rows.int_text_len_1921 (of_decide_eq_true (by simpa [PyData.showable] using h))
  | .str x, _, _ => Nat.le_refl _
  | .list ds, h, g => by
    have h1 := showns_le ds (by simpa [PyData.showable] using h) (by simpa [PyData.hasDict] using g)
    have h2 := lstT_len (PyData.shownAll ds)
    show (listText (PyData.shownAll ds)).length ≤ csts ds + 4
    omega
  | .tuple ds, h, g => by
    have h1 := showns_le ds (by simpa [PyData.showable] using h) (by simpa [PyData.hasDict] using g)
    have h2 := tupT_len (PyData.shownAll ds)
    show (tupleText (PyData.shownAll ds)).length ≤ csts ds + 4
    omega
  | .dict _, _, g => by simp [PyData.hasDict] at g
theorem showns_le : ∀ ds : List PyData, PyData.showableAll ds = true → PyData.hasDictAll ds = false → piled (PyData.shownAll ds) ≤ csts ds
  | [], _, _ => Nat.le_refl _
  | d :: ds, h, g => by
    have h1 := shown_le d (by simp [PyData.showableAll] at h; exact h.1) (by simp [PyData.hasDictAll] at g; exact g.1)
    have h2 := showns_le ds (by simp [PyData.showableAll] at h; exact h.2) (by simp [PyData.hasDictAll] at g; exact g.2)
    show piled (d.shown :: PyData.shownAll ds) ≤ _
    rw [piled_cons]
    show _ ≤ cst d + 4 + csts ds
    omega
end
theorem shown_sz {d : PyData} (h : d.showable = true) (g : d.hasDict = false) (c : cst d ≤ 10000000) : d.shown.length ≤ sizeLine :=
  Nat.le_trans (shown_le d h g) (Nat.le_trans c (by decide))
end Toy
namespace Toy
open PySem PySem.Spec PyProof.Rows L2
/-- a list of ints grown by a part of another one -/
theorem ext_cut {L z : Addr} {ws es : List Int} {lo hi : Option Int} {H : Hp} {R : VK} (hL : H L = some (.lst (ws.map V.int))) (hz : H z = some (.lst (cutV (es.map V.int) lo hi))) (hs : ws.length + es.length ≤ 1000)
    (q : ∀ us : List Int, us.length ≤ es.length → (∀ x ∈ us, x ∈ es) → R .non (upd H L (.lst ((ws ++ us).map V.int)))) : rExtend (.ref L) [.ref z] H R := by
  obtain ⟨us, e, h1, h2⟩ := cut_map es lo hi
  rw [e] at hz
  refine ⟨L, z, _, _, rfl, rfl, hL, hz, small (by rw [List.length_map, List.length_map]; omega), ?_⟩
  have := q us h1 h2
  rw [List.map_append] at this
  exact this
theorem rep_len {n : Nat} : ((List.replicate n true).map V.bl).length = n := by rw [List.length_map, List.length_replicate]
theorem rep_snoc {n : Nat} : (List.replicate n true).map V.bl ++ [V.bl true] = (List.replicate (n + 1) true).map V.bl := by rw [List.replicate_succ', List.map_append] <;> rfl
theorem rep_all (n : Nat) : (List.replicate n true).all id = true := by rw [List.all_eq_true]; intro x hx; rw [List.mem_replicate] at hx; exact hx.2
theorem ixn {n j : Nat} (hj : j < n) : ixN n (j : Int) = some j := by
  unfold ixN
  rw [if_pos (by omega), if_pos (by omega)]
  exact congrArg some (Int.toNat_natCast j)
theorem dec_self (a : V) : decide (a = a) = true := decide_eq_true rfl
end Toy
namespace Toy
open PySem PySem.Spec PyProof.Rows L2
/-- a comprehension within a comprehension -/
theorem relabel_kept {env : Env} : ∀ {names : List (Str × NameKind)} {x : Str}, names.lookup x = some .cell ∨ names.lookup x = some .free →
    (names.map fun (n, k) => if (k == NameKind.free && env.scope.kind == .function && env.kindOf n == some .cell) then (n, NameKind.cell) else (n, k)).lookup x = some .cell ∨
    (names.map fun (n, k) => if (k == NameKind.free && env.scope.kind == .function && env.kindOf n == some .cell) then (n, NameKind.cell) else (n, k)).lookup x = some .free
  | [], _, h => by simp at h
  | (n, k) :: r, x, h => by
    have ih := @relabel_kept env r x
    show List.lookup x ((if (k == NameKind.free && env.scope.kind == .function && env.kindOf n == some .cell) = true then (n, NameKind.cell) else (n, k)) :: _) = _ ∨ List.lookup x ((if (k == NameKind.free && env.scope.kind == .function && env.kindOf n == some .cell) = true then (n, NameKind.cell) else (n, k)) :: _) = _
    cases hx : x == n with
    | true =>
      simp only [List.lookup_cons, hx] at h
      by_cases hc : (k == NameKind.free && env.scope.kind == .function && env.kindOf n == some .cell) = true
      · rw [if_pos hc]; exact .inl (by simp [List.lookup_cons, hx])
      · rw [if_neg hc]; simp only [List.lookup_cons, hx]; exact h
    | false =>
      simp only [List.lookup_cons, hx] at h
      by_cases hc : (k == NameKind.free && env.scope.kind == .function && env.kindOf n == some .cell) = true
      · rw [if_pos hc]; simp only [List.lookup_cons, hx]; exact ih h
      · rw [if_neg hc]; simp only [List.lookup_cons, hx]; exact ih h
theorem blkOk_nest {X : Cx} {s : Shared} {H : Hp} {scope1 scope : Scope} {cl : List (Str × Addr)} {C : Addr} {env : Env} {fp : List Addr} {own : List (Str × Nat)} {N : List Str} (hN : X.N = N) (h : blkC N scope1 scope own = true) :
    BlkOk (X.blk s H scope1 (compEnvC scope1 cl C env) fp).N (X.blk s H scope1 (compEnvC scope1 cl C env) fp).env.scope scope own := by
  subst hN
  obtain ⟨h1, h2, h3, h4, h5⟩ := blkOk_by h
  exact ⟨h1, h2, h3, fun y hy e => relabel_kept (h4 y hy e), h5⟩
end Toy
namespace Toy
open PySem PySem.Spec PyProof.Rows L2
/-! ### own classes -/
/-- where a name's class stands -/
def cAt (mg : Str → Option Value) (x : Str) : Addr := match mg x with | some (.ref C) => C | _ => 0
theorem cAt_eq {mg : Str → Option Value} {x : Str} {C : Addr} (h : mg x = some (.ref C)) : cAt mg x = C := by unfold cAt; rw [h]
structure ClsF (K : PySem.W.Frag) (mg : Str → Option Value) (x : Str) (fs : List Str) : Prop where
  mg_ : mg x = some (.ref (cAt mg x))
  cl : Cls K (cAt mg x)
  no : ∀ f ∈ fs, NoAttr K (cAt mg x) f
theorem ClsF.of {K : PySem.W.Frag} {mg : Str → Option Value} {x : Str} {C : Addr} {fs : List Str} (m : mg x = some (.ref C)) (c : Cls K C) (n : ∀ f ∈ fs, NoAttr K C f) : ClsF K mg x fs := by
  have e := cAt_eq m
  exact ⟨by rw [e]; exact m, by rw [e]; exact c, by rw [e]; exact n⟩
/-- a method, by its class -/
structure DfM (K : PySem.W.Frag) (C : Addr) (m q : Str) (st : Stmt) (ps : List Str) : Prop where
  ex : ∃ f fd, Fun K m q st f fd ∧ Meth K C m f ∧ Binds K fd ps []
theorem DfM.of {K : PySem.W.Frag} {mg : Str → Option Value} {x m q : Str} {st : Stmt} {ps : List Str} {f C : Addr} {oc : Value} {od an : Option Addr} {osl : Array (Option Value)} {kV doc pm cdv ct : Value} (hC : mg x = some (.ref C))
    (a : PySem.W.findIn K (.ref C) m = some (some (.ref f))) (i : PySem.W.isFn K (.ref f) = true)
    (l : K.lookup f = some ⟨oc, od, .func (PySem.W.fnOf m q (defArgs st) (defBody st) (defScope st) .none kV doc pm an cdv ct), osl⟩) (c : PySem.W.codeIn K cdv q = true) (k : PySem.W.keepIn K (.ref f) = true)
    (h : ∀ (kV doc pm : Value) (an : Option Addr) (cdv ct : Value) (us : List Value), us.length = ps.length → bindArgs (PySem.W.fnOf m q (defArgs st) (defBody st) (defScope st) .none kV doc pm an cdv ct) ⟨us, []⟩ = pure (ps.zip us)) : DfM K (cAt mg x) m q st ps := by
  rw [cAt_eq hC]
  exact ⟨_, _, fun_mk l c k, ⟨a, i, k⟩, (fun_mk l c k).binds h⟩
structure DnM (P : Program) (w : World) (K : PySem.W.Frag) (mg : Str → Option Value) (base : Heap) (C : Addr) (k : Nat) (m : Str) (ps : List Str) (sp : Sp) : Prop where
  ex : ∃ f fd, FnG P w K mg base CX0 k f fd ps sp ∧ Meth K C m f ∧ Binds K fd ps []
theorem DfM.ok {P : Program} {w : World} {K : PySem.W.Frag} {mg : Str → Option Value} {base : Heap} {C : Addr} {m q : Str} {st : Stmt} {ps : List Str} {k : Nat} {sp : Sp} (D : DfM K C m q st ps)
    (h : ∀ f fd, Fun K m q st f fd → FnG P w K mg base CX0 k f fd ps sp) : DnM P w K mg base C k m ps sp := by
  obtain ⟨f, fd, F, mt, b⟩ := D.ex
  exact ⟨f, fd, h f fd F, mt, b⟩
/-- the maker of a class -/
structure DfI (K : PySem.W.Frag) (C : Addr) (q : Str) (st : Stmt) (ps : List Str) : Prop where
  ex : ∃ f fd, Fun K "__init__" q st f fd ∧ Mk K C f ∧ Binds K fd ps []
theorem DfI.of {K : PySem.W.Frag} {mg : Str → Option Value} {x q : Str} {st : Stmt} {ps : List Str} {f C : Addr} {oc : Value} {od an : Option Addr} {osl : Array (Option Value)} {kV doc pm cdv ct : Value} (hC : mg x = some (.ref C))
    (a : PySem.W.findIn K (.ref C) "__init__" = some (some (.ref f))) (i : PySem.W.isFn K (.ref f) = true)
    (l : K.lookup f = some ⟨oc, od, .func (PySem.W.fnOf "__init__" q (defArgs st) (defBody st) (defScope st) .none kV doc pm an cdv ct), osl⟩) (c : PySem.W.codeIn K cdv q = true) (k : PySem.W.keepIn K (.ref f) = true)
    (mk : PySem.W.makesIn K C = true) (kc : PySem.W.keepIn K (.ref C) = true)
    (h : ∀ (kV doc pm : Value) (an : Option Addr) (cdv ct : Value) (us : List Value), us.length = ps.length → bindArgs (PySem.W.fnOf "__init__" q (defArgs st) (defBody st) (defScope st) .none kV doc pm an cdv ct) ⟨us, []⟩ = pure (ps.zip us)) : DfI K (cAt mg x) q st ps := by
  rw [cAt_eq hC]
  exact ⟨_, _, fun_mk l c k, ⟨mk, a, i, kc⟩, (fun_mk l c k).binds h⟩
structure DnI (P : Program) (w : World) (K : PySem.W.Frag) (mg : Str → Option Value) (base : Heap) (C : Addr) (k : Nat) (ps : List Str) (sp : Sp) : Prop where
  ex : ∃ f fd, FnG P w K mg base CX0 k f fd ps sp ∧ Mk K C f ∧ Binds K fd ps []
theorem DfI.ok {P : Program} {w : World} {K : PySem.W.Frag} {mg : Str → Option Value} {base : Heap} {C : Addr} {q : Str} {st : Stmt} {ps : List Str} {k : Nat} {sp : Sp} (D : DfI K C q st ps)
    (h : ∀ f fd, Fun K "__init__" q st f fd → FnG P w K mg base CX0 k f fd ps sp) : DnI P w K mg base C k ps sp := by
  obtain ⟨f, fd, F, mt, b⟩ := D.ex
  exact ⟨f, fd, h f fd F, mt, b⟩
theorem RoomG.make {k : Nat} {A : Around} (r : RoomG (k + 1) A) (C : Addr) (us : List Value) (kw : List (Str × Value)) : RoomG k (A.under (.builtin "type.__call__" ⟨.ref C :: us, kw⟩)) :=
  ⟨r.room.make C us kw, r.idle⟩
section
variable {X : Cx} {k : Nat} {C : Addr} {ps : List Str} {sp : Sp} {x m : Str} {p pos apos : Pos} {e o : Expr} {es : List Expr} {ta : TE} {t : TA}
theorem pe_mG {pl : Sem Bool} (D : DnM X.prog X.w X.K X.mg X.base C k m ps sp) (c : Cls X.K C) (hr : RoomG k X.A) (he : PE X o ta) (ha : PA X (e :: es) t)
    (hst : starEach (e :: es) X.env = (false, eval e X.env) :: starEach es X.env := by rfl) (hpl : (backTo pos (starEach es X.env)).any (·.1) = false := by rfl)
    (ht : eval (.Call (.Attribute o m apos) (e :: es) [] pos) X.env = (do
      let ov ← eval o X.env
      standAt apos.atName
      let (f, first) ← holding [ov] (getMethod ov m pl)
      callWith pos f first (backTo pos (starEach (e :: es) X.env)) (backToKw pos (keywordEach [] X.env))) := by rfl) :
    PE X (.Call (.Attribute o m apos) (e :: es) [] pos) (tMeth C m sp [] E0 ta t) := by
  obtain ⟨f, fd, F, hm, hb⟩ := D.ex
  refine ⟨fun pins s σ H Q I h => ?_⟩
  refine PySem.W.methodCall_KW (pl := pl) (thn (he.run pins s σ H _ I h) fun u s1 ⟨x, H1, I1, rx, a, dx, fs, ex, ea, l, q⟩ => ?_) ht
  subst ex
  obtain rfl : u = Value.ref a := rx
  refine getmeth_ok I1 ea c hm l ?_
  refine PySem.W.callWith_K (first := [.ref a]) (h₀ := X.base) I.ok.mod.kin hm.kp (thn (ha.run pos pins s1 σ H1 _ I1 q) fun us s2 ⟨vs, H2, I2, r, q2⟩ => ⟨I2.kIn, ?_⟩) hst hpl
  have q' : sp (.ref a :: vs) H2 Q E0 := by
    have z : sp (.ref a :: (vs ++ [])) H2 Q E0 := q2
    rw [List.append_nil] at z
    exact z
  exact run_G (us := .ref a :: us) (vs := .ref a :: vs) F hr hb (fun _ _ z => z.elim) I2 (.cons rfl r) q'
theorem pe_mG0 {pl : Sem Bool} (D : DnM X.prog X.w X.K X.mg X.base C k m ps sp) (c : Cls X.K C) (hr : RoomG k X.A) (he : PE X o ta)
    (ht : eval (.Call (.Attribute o m apos) [] [] pos) X.env = (do
      let ov ← eval o X.env
      standAt apos.atName
      let (f, first) ← holding [ov] (getMethod ov m pl)
      callWith pos f first (backTo pos (starEach [] X.env)) (backToKw pos (keywordEach [] X.env))) := by rfl) :
    PE X (.Call (.Attribute o m apos) [] [] pos) (tMeth C m sp [] E0 ta tNil) := by
  obtain ⟨f, fd, F, hm, hb⟩ := D.ex
  refine ⟨fun pins s σ H Q I h => ?_⟩
  refine PySem.W.methodCall_KW (pl := pl) (thn (he.run pins s σ H _ I h) fun u s1 ⟨x, H1, I1, rx, a, dx, fs, ex, ea, l, q⟩ => ?_) ht
  subst ex
  obtain rfl : u = Value.ref a := rx
  refine getmeth_ok I1 ea c hm l ?_
  exact PySem.W.callWith_K0 (first := [.ref a]) I1.kIn hm.kp (run_G (us := [.ref a]) (vs := [.ref a]) F hr hb (fun _ _ z => z.elim) I1 (.cons rfl .nil) q)
theorem run_mkG {pins : List (Addr × Obj)} {σ : L2.St} {H : Hp} {s : Shared} {Q : VK} {us : List Value} {vs : List V} {f : Addr} {fd : FuncData} (M : Mk X.K C f) (F : FnG X.prog X.w X.K X.mg X.base CX0 k f fd ps sp) (hr : RoomG (k + 1) X.A) (hb : Binds X.K fd ps [])
    (I : Inv X pins σ H s) (r : Vals vs us)
    (h : ∀ x dx, H x = none → H dx = none → dx ≠ x → sp (.ref x :: vs) (upd (upd H dx (.own x)) x (.ins C dx [])) (fun v H2 => v = .non ∧ Q (.ref x) H2) E0) :
    wpAny (model X.prog X.w) X.A (call (.ref C) us) (EP X pins σ Q) X.xe s := by
  have hq := h (s.heap.objs.size + 1) s.heap.objs.size (I.hok.fresh (Nat.le_succ _)) (I.hok.fresh (Nat.le_refl _)) (Nat.ne_of_lt (Nat.lt_succ_self _))
  have I2 := Inv.made (C := C) I
  have r2 : Vals (V.ref (s.heap.objs.size + 1) :: vs) (Value.ref (s.heap.objs.size + 1) :: us) := .cons rfl r
  have hl : (Value.ref (s.heap.objs.size + 1) :: us).length = ps.length := by
    rw [← r2.length]
    exact F.arity _ _ _ _ hq
  have b := hb { s with heap := _ } (Value.ref (s.heap.objs.size + 1) :: us) I2.kIn (by rw [List.append_nil]; exact hl)
  rw [List.append_nil] at b
  refine wpAny_call (make_map (f := f) I.kIn M.makes M.init (beq_iff_eq.mp M.fn) (codeAny_mono (F.go (hr.make C us []) (I2.env0.make C us []) b r2 hq) fun r s' hq' => ?_))
  cases r with
  | error e => exact hq'.elim
  | ok fl =>
    match fl, hq' with
    | .ret u, hq' =>
      obtain ⟨v, H', I3, rv, ev, q3⟩ := I2.after hq'
      subst ev
      exact ⟨rv, ⟨V.ref (s.heap.objs.size + 1), H', I3, rfl, q3⟩⟩
theorem pe_mkG (D : DnI X.prog X.w X.K X.mg X.base C k ps sp) (hr : RoomG (k + 1) X.A) (hg : Gl X x) (hm : X.mg x = some (.ref C)) (ha : PA X (e :: es) t) (hdb : (x == ("__debug__" : Str)) = false := by decide)
    (he : starEach (e :: es) X.env = (false, eval e X.env) :: starEach es X.env := by rfl) (hpl : (backTo pos (starEach es X.env)).any (·.1) = false := by rfl) :
    PE X (.Call (.Name x p) (e :: es) [] pos) (tMake C sp [] E0 t) := by
  obtain ⟨f, fd, F, M, hb⟩ := D.ex
  refine ⟨fun pins s σ H Q I h => ?_⟩
  refine wpAny_Call_Name_kw (ld_glob I hg hm ?_ hdb)
  refine PySem.W.callWith_K (h₀ := X.base) I.ok.mod.kin M.kp (thn (ha.run pos pins s σ H _ I h) fun us s1 ⟨vs, H1, I1, r, q⟩ => ⟨I1.kIn, ?_⟩) he hpl
  exact run_mkG M F hr hb I1 r fun x dx h1 h2 h3 => by
    have z := q x dx h1 h2 h3
    rw [List.append_nil] at z
    exact z
/-- o.f, as a target -/
def gFld (K : PySem.W.Frag) (to : TE) (f : Str) : TG := fun v σ H Q => to σ H fun x H1 => ∃ a C dx fs, x = .ref a ∧ H1 a = some (.ins C dx fs) ∧ Cls K C ∧ NoAttr K C f ∧ fs.length < 1000 ∧ Q σ (upd H1 a (.ins C dx (putF f v fs)))
theorem pg_fld {f : Str} {to : TE} (ho : PE X o to) : PG X (.Attribute o f pos) (gFld X.K to f) := by
  refine ⟨fun pins s σ H v u Q I r h => ?_⟩
  rw [assign_Attribute]
  refine wpAny_bind (wpAny_holding (thn (ho.run pins s σ H _ I h) fun ov s1 ⟨x, H1, I1, rx, a, C, dx, fs, ex, ea, c, n, l, q⟩ => ?_))
  subst ex
  obtain rfl : ov = Value.ref a := rx
  refine wpAny_bind (wpAny_standAt ?_)
  refine wpAny_bind (wpAny_holding (setattr_ok I1 ea c n l r fun s2 I2 => ?_))
  exact wpAny_release ⟨σ, _, I2, q⟩
end
end Toy
namespace Toy
open PySem PySem.Spec PyProof.Rows L2
theorem hp_same {H H' : Hp} {a : Addr} {o : HO} (s : Same H H') (h : H a = some o) : H' a = some o := s _ _ h
theorem hp_at {H H' : Hp} {a : Addr} {o : HO} (h : H a = some o) (s : Same H H') : H' a = some o := s _ _ h
theorem sql_at {K : PySem.W.Frag} {H H' : Hp} {p : Addr} {xs : List V} (h : SqL K H p xs) (s : Same H H') : SqL K H' p xs := s.seq h
theorem sqt_at {K : PySem.W.Frag} {H H' : Hp} {a : Addr} {xs : List V} (h : SqT K H a xs) (s : Same H H') : SqT K H' a xs := same_tup s h
theorem same_bk {H M H' : Hp} (b : Same M H') (a : Same H M) : Same H H' := a.trans b
theorem hp_new {H : Hp} {l a : Addr} {o u : HO} (n : H l = none) (h : H a = some o) : upd H l u a = some o := same_new n u _ _ h
theorem s1k : 1000 ≤ sizeLine := by decide
theorem lk1000 {n : Nat} (h : n ≤ 1000) : n ≤ sizeLine := Nat.le_trans h s1k
theorem lt1000 {n : Nat} (h : n < 1000) : n < sizeLine := Nat.lt_of_lt_of_le h s1k
theorem tyL {K : PySem.W.Frag} {H : Hp} {p : Addr} {xs : List V} (h : H p = some (.lst xs)) : tyV K "list" (.ref p) H := .inl ⟨rfl, xs, SqL.of h⟩
theorem sq_same {K : PySem.W.Frag} {H H' : Hp} {p : Addr} {xs : List V} (s : Same H H') (h : SqL K H p xs) : SqL K H' p xs := s.seq h
theorem newS {H H' : Hp} {l : Addr} {o : HO} (e : upd H l o = H') (n : H l = none) : Same H H' := e ▸ same_new n o
theorem newO {H H' : Hp} {l : Addr} {o : HO} (e : upd H l o = H') : H' l = some o := e ▸ upd_same
end Toy
namespace Toy
open PySem PySem.Spec PyProof.Rows L2
/-! ### what may raise -/
section
variable {X : Cx} {k : Nat} {ps : List Str} {sp : Sp} {x : Str} {p pos : Pos} {e : Expr} {es : List Expr} {t : TA} {W : WX}
theorem cx_no {outer : List Env} {H : Hp} {s : Shared} {e : Value} {s' : Shared} {P : Program} {w : World} (h : L2.CX P w outer H s E0 e s') : False := by
  obtain ⟨_, _, _, _, _, _, _, _, _, _, _, _, z⟩ := h
  exact z.elim
/-- a call that may raise; W takes what is raised -/
theorem pe_cW (D : Dx X.prog X.w X.K X.mg X.base k x ps sp) (hr : RoomG k X.A) (tk : Takes X W) (hg : Gl X x) (ha : PA X (e :: es) t) (hdb : (x == ("__debug__" : Str)) = false := by decide)
    (he : starEach (e :: es) X.env = (false, eval e X.env) :: starEach es X.env := by rfl) (hpl : (backTo pos (starEach es X.env)).any (·.1) = false := by rfl) : PE X (.Call (.Name x p) (e :: es) [] pos) (tCallS sp (WE W) t) := by
  obtain ⟨f, fd, F, hk, hm, hb⟩ := D.ex
  exact ⟨fun pins s σ H Q I h => wpAny_Call_Name_kw (ld_glob I hg hm (PySem.W.callWith_K (h₀ := X.base) I.ok.mod.kin hk (thn (ha.run pos pins s σ H _ I h) fun us s1 ⟨vs, H1, I1, r, q⟩ => ⟨I1.kIn, run_G F hr hb (fun e s' c => passAt tk σ pins H1 s1 e s' I1 c) I1 r q⟩) he hpl) hdb)⟩
theorem pe_cW0 (D : Dx X.prog X.w X.K X.mg X.base k x ps sp) (hr : RoomG k X.A) (tk : Takes X W) (hg : Gl X x) (hdb : (x == ("__debug__" : Str)) = false := by decide) : PE X (.Call (.Name x p) [] [] pos) (tCallS sp (WE W) tNil) := by
  obtain ⟨f, fd, F, hk, hm, hb⟩ := D.ex
  exact ⟨fun pins s σ H Q I h => wpAny_Call_Name_kw (ld_glob I hg hm (PySem.W.callWith_K0 I.kIn hk (run_G (us := []) F hr hb (fun e s' c => passAt tk σ pins H s e s' I c) I .nil h)) hdb)⟩
/-- .. that does not raise here -/
theorem pe_cXn (D : Dx X.prog X.w X.K X.mg X.base k x ps sp) (hr : RoomG k X.A) (hg : Gl X x) (ha : PA X (e :: es) t) (hdb : (x == ("__debug__" : Str)) = false := by decide)
    (he : starEach (e :: es) X.env = (false, eval e X.env) :: starEach es X.env := by rfl) (hpl : (backTo pos (starEach es X.env)).any (·.1) = false := by rfl) : PE X (.Call (.Name x p) (e :: es) [] pos) (tCall sp [] E0 t) := by
  obtain ⟨f, fd, F, hk, hm, hb⟩ := D.ex
  refine ⟨fun pins s σ H Q I h => wpAny_Call_Name_kw (ld_glob I hg hm (PySem.W.callWith_K (h₀ := X.base) I.ok.mod.kin hk (thn (ha.run pos pins s σ H _ I h) fun us s1 ⟨vs, H1, I1, r, q⟩ => ⟨I1.kIn, ?_⟩) he hpl) hdb)⟩
  have q' : sp vs H1 Q E0 := by
    have z : sp (vs ++ []) H1 Q E0 := q
    rw [List.append_nil] at z
    exact z
  exact run_G F hr hb (fun _ _ z => (cx_no z).elim) I1 r q'
/-- a def with defaults that may raise -/
structure DxD (P : Program) (w : World) (K : PySem.W.Frag) (mg : Str → Option Value) (base : Heap) (k : Nat) (x : Str) (ps : List Str) (dvs : List V) (sp : Sp) : Prop where
  ex : ∃ (f : Addr) (fd : FuncData) (ds : List Value), FnG P w K mg base (L2.CX P w) k f fd ps sp ∧ PySem.W.keepIn K (.ref f) = true ∧ mg x = some (.ref f) ∧ Binds K fd ps ds ∧ Vals dvs ds
theorem Dfd.okX {P : Program} {w : World} {K : PySem.W.Frag} {mg : Str → Option Value} {base : Heap} {x : Str} {st : Stmt} {dvs : List V} (D : Dfd K mg x st ps dvs)
    (h : ∀ f fd, FunA K x x st f fd → FnG P w K mg base (L2.CX P w) k f fd ps sp) : DxD P w K mg base k x ps dvs sp := by
  obtain ⟨f, fd, ds, F, kp, m, b, d⟩ := D.ex
  exact ⟨f, fd, ds, h f fd F, kp, m, b, d⟩
theorem pe_cXd {dvs : List V} (D : DxD X.prog X.w X.K X.mg X.base k x ps dvs sp) (hr : RoomG k X.A) (tk : Takes X W) (hg : Gl X x) (ha : PA X (e :: es) t) (hdb : (x == ("__debug__" : Str)) = false := by decide)
    (he : starEach (e :: es) X.env = (false, eval e X.env) :: starEach es X.env := by rfl) (hpl : (backTo pos (starEach es X.env)).any (·.1) = false := by rfl) : PE X (.Call (.Name x p) (e :: es) [] pos) (fun σ H Q => t σ H fun vs H1 => sp (vs ++ dvs) H1 Q (WE W σ)) := by
  obtain ⟨f, fd, ds, F, hk, hm, hb, hd⟩ := D.ex
  exact ⟨fun pins s σ H Q I h => wpAny_Call_Name_kw (ld_glob I hg hm (PySem.W.callWith_K (h₀ := X.base) I.ok.mod.kin hk (thn (ha.run pos pins s σ H _ I h) fun us s1 ⟨vs, H1, I1, r, q⟩ => ⟨I1.kIn, run_Gd F hr hb hd (fun e s' c => passAt tk σ pins H1 s1 e s' I1 c) I1 r q⟩) he hpl) hdb)⟩
theorem pe_cXdn {dvs : List V} (D : DxD X.prog X.w X.K X.mg X.base k x ps dvs sp) (hr : RoomG k X.A) (hg : Gl X x) (ha : PA X (e :: es) t) (hdb : (x == ("__debug__" : Str)) = false := by decide)
    (he : starEach (e :: es) X.env = (false, eval e X.env) :: starEach es X.env := by rfl) (hpl : (backTo pos (starEach es X.env)).any (·.1) = false := by rfl) : PE X (.Call (.Name x p) (e :: es) [] pos) (tCall sp dvs E0 t) := by
  obtain ⟨f, fd, ds, F, hk, hm, hb, hd⟩ := D.ex
  exact ⟨fun pins s σ H Q I h => wpAny_Call_Name_kw (ld_glob I hg hm (PySem.W.callWith_K (h₀ := X.base) I.ok.mod.kin hk (thn (ha.run pos pins s σ H _ I h) fun us s1 ⟨vs, H1, I1, r, q⟩ => ⟨I1.kIn, run_Gd F hr hb hd (fun _ _ z => (cx_no z).elim) I1 r q⟩) he hpl) hdb)⟩
/-- a method that may raise -/
structure DxM (P : Program) (w : World) (K : PySem.W.Frag) (mg : Str → Option Value) (base : Heap) (C : Addr) (k : Nat) (m : Str) (ps : List Str) (sp : Sp) : Prop where
  ex : ∃ f fd, FnG P w K mg base (L2.CX P w) k f fd ps sp ∧ Meth K C m f ∧ Binds K fd ps []
theorem DfM.okX {P : Program} {w : World} {K : PySem.W.Frag} {mg : Str → Option Value} {base : Heap} {C : Addr} {m q : Str} {st : Stmt} (D : DfM K C m q st ps)
    (h : ∀ f fd, Fun K m q st f fd → FnG P w K mg base (L2.CX P w) k f fd ps sp) : DxM P w K mg base C k m ps sp := by
  obtain ⟨f, fd, F, mt, b⟩ := D.ex
  exact ⟨f, fd, h f fd F, mt, b⟩
variable {m : Str} {apos : Pos} {o : Expr} {ta : TE} {C : Addr}
def tMethX (C : Addr) (m : Str) (sp : Sp) (W : WX) (ta : TE) (t : TA) : TE := fun σ H Q => ta σ H fun x H1 => ∃ a dx fs, x = .ref a ∧ H1 a = some (.ins C dx fs) ∧ fs.lookup m = none ∧ t σ H1 fun vs H2 => sp (x :: vs) H2 Q (WE W σ)
theorem pe_mX {pl : Sem Bool} (D : DxM X.prog X.w X.K X.mg X.base C k m ps sp) (c : Cls X.K C) (hr : RoomG k X.A) (tk : Takes X W) (he : PE X o ta) (ha : PA X (e :: es) t)
    (hst : starEach (e :: es) X.env = (false, eval e X.env) :: starEach es X.env := by rfl) (hpl : (backTo pos (starEach es X.env)).any (·.1) = false := by rfl)
    (ht : eval (.Call (.Attribute o m apos) (e :: es) [] pos) X.env = (do
      let ov ← eval o X.env
      standAt apos.atName
      let (f, first) ← holding [ov] (getMethod ov m pl)
      callWith pos f first (backTo pos (starEach (e :: es) X.env)) (backToKw pos (keywordEach [] X.env))) := by rfl) :
    PE X (.Call (.Attribute o m apos) (e :: es) [] pos) (tMethX C m sp W ta t) := by
  obtain ⟨f, fd, F, hm, hb⟩ := D.ex
  refine ⟨fun pins s σ H Q I h => ?_⟩
  refine PySem.W.methodCall_KW (pl := pl) (thn (he.run pins s σ H _ I h) fun u s1 ⟨x, H1, I1, rx, a, dx, fs, ex, ea, l, q⟩ => ?_) ht
  subst ex
  obtain rfl : u = Value.ref a := rx
  refine getmeth_ok I1 ea c hm l ?_
  refine PySem.W.callWith_K (first := [.ref a]) (h₀ := X.base) I.ok.mod.kin hm.kp (thn (ha.run pos pins s1 σ H1 _ I1 q) fun us s2 ⟨vs, H2, I2, r, q2⟩ => ⟨I2.kIn, ?_⟩) hst hpl
  exact run_G (us := .ref a :: us) (vs := .ref a :: vs) F hr hb (fun e s' c => passAt tk σ pins H2 s2 e s' I2 c) I2 (.cons rfl r) q2
theorem pe_mXn {pl : Sem Bool} (D : DxM X.prog X.w X.K X.mg X.base C k m ps sp) (c : Cls X.K C) (hr : RoomG k X.A) (he : PE X o ta) (ha : PA X (e :: es) t)
    (hst : starEach (e :: es) X.env = (false, eval e X.env) :: starEach es X.env := by rfl) (hpl : (backTo pos (starEach es X.env)).any (·.1) = false := by rfl)
    (ht : eval (.Call (.Attribute o m apos) (e :: es) [] pos) X.env = (do
      let ov ← eval o X.env
      standAt apos.atName
      let (f, first) ← holding [ov] (getMethod ov m pl)
      callWith pos f first (backTo pos (starEach (e :: es) X.env)) (backToKw pos (keywordEach [] X.env))) := by rfl) :
    PE X (.Call (.Attribute o m apos) (e :: es) [] pos) (tMeth C m sp [] E0 ta t) := by
  obtain ⟨f, fd, F, hm, hb⟩ := D.ex
  refine ⟨fun pins s σ H Q I h => ?_⟩
  refine PySem.W.methodCall_KW (pl := pl) (thn (he.run pins s σ H _ I h) fun u s1 ⟨x, H1, I1, rx, a, dx, fs, ex, ea, l, q⟩ => ?_) ht
  subst ex
  obtain rfl : u = Value.ref a := rx
  refine getmeth_ok I1 ea c hm l ?_
  refine PySem.W.callWith_K (first := [.ref a]) (h₀ := X.base) I.ok.mod.kin hm.kp (thn (ha.run pos pins s1 σ H1 _ I1 q) fun us s2 ⟨vs, H2, I2, r, q2⟩ => ⟨I2.kIn, ?_⟩) hst hpl
  have q' : sp (.ref a :: vs) H2 Q E0 := by
    have z : sp (.ref a :: (vs ++ [])) H2 Q E0 := q2
    rw [List.append_nil] at z
    exact z
  exact run_G (us := .ref a :: us) (vs := .ref a :: vs) F hr hb (fun _ _ z => (cx_no z).elim) I2 (.cons rfl r) q'
/-- a maker that may raise -/
structure DxI (P : Program) (w : World) (K : PySem.W.Frag) (mg : Str → Option Value) (base : Heap) (C : Addr) (k : Nat) (ps : List Str) (sp : Sp) : Prop where
  ex : ∃ f fd, FnG P w K mg base (L2.CX P w) k f fd ps sp ∧ Mk K C f ∧ Binds K fd ps []
theorem DfI.okX {P : Program} {w : World} {K : PySem.W.Frag} {mg : Str → Option Value} {base : Heap} {C : Addr} {q : Str} {st : Stmt} (D : DfI K C q st ps)
    (h : ∀ f fd, Fun K "__init__" q st f fd → FnG P w K mg base (L2.CX P w) k f fd ps sp) : DxI P w K mg base C k ps sp := by
  obtain ⟨f, fd, F, mt, b⟩ := D.ex
  exact ⟨f, fd, h f fd F, mt, b⟩
theorem run_mkX {pins : List (Addr × Obj)} {σ : L2.St} {H : Hp} {s : Shared} {Q : VK} {E : XK} {us : List Value} {vs : List V} {f : Addr} {fd : FuncData} (M : Mk X.K C f) (F : FnG X.prog X.w X.K X.mg X.base (L2.CX X.prog X.w) k f fd ps sp) (hr : RoomG (k + 1) X.A) (hb : Binds X.K fd ps [])
    (out : ∀ (H2 : Hp) (s2 : Shared) e s', Inv X pins σ H2 s2 → L2.CX X.prog X.w X.stack H2 s2 E e s' → X.xe e s') (I : Inv X pins σ H s) (r : Vals vs us)
    (h : ∀ x dx, H x = none → H dx = none → dx ≠ x → sp (.ref x :: vs) (upd (upd H dx (.own x)) x (.ins C dx [])) (fun v H2 => v = .non ∧ Q (.ref x) H2) E) :
    wpAny (model X.prog X.w) X.A (call (.ref C) us) (EP X pins σ Q) X.xe s := by
  have hq := h (s.heap.objs.size + 1) s.heap.objs.size (I.hok.fresh (Nat.le_succ _)) (I.hok.fresh (Nat.le_refl _)) (Nat.ne_of_lt (Nat.lt_succ_self _))
  have I2 := Inv.made (C := C) I
  have r2 : Vals (V.ref (s.heap.objs.size + 1) :: vs) (Value.ref (s.heap.objs.size + 1) :: us) := .cons rfl r
  have hl : (Value.ref (s.heap.objs.size + 1) :: us).length = ps.length := by
    rw [← r2.length]
    exact F.arity _ _ _ _ hq
  have b := hb { s with heap := _ } (Value.ref (s.heap.objs.size + 1) :: us) I2.kIn (by rw [List.append_nil]; exact hl)
  rw [List.append_nil] at b
  refine wpAny_call (make_map (f := f) I.kIn M.makes M.init (beq_iff_eq.mp M.fn) (codeAny_mono (F.go (hr.make C us []) (I2.env0.make C us []) b r2 hq) fun r s' hq' => ?_))
  cases r with
  | error e => exact out _ _ e s' I2 hq'
  | ok fl =>
    match fl, hq' with
    | .ret u, hq' =>
      obtain ⟨v, H', I3, rv, ev, q3⟩ := I2.after hq'
      subst ev
      exact ⟨rv, ⟨V.ref (s.heap.objs.size + 1), H', I3, rfl, q3⟩⟩
def tMakeX (C : Addr) (sp : Sp) (W : WX) (t : TA) : TE := fun σ H Q => t σ H fun vs H1 => ∀ x dx, H1 x = none → H1 dx = none → dx ≠ x → sp (.ref x :: vs) (upd (upd H1 dx (.own x)) x (.ins C dx [])) (fun v H2 => v = .non ∧ Q (.ref x) H2) (WE W σ)
theorem pe_mkX (D : DxI X.prog X.w X.K X.mg X.base C k ps sp) (hr : RoomG (k + 1) X.A) (tk : Takes X W) (hg : Gl X x) (hm : X.mg x = some (.ref C)) (ha : PA X (e :: es) t) (hdb : (x == ("__debug__" : Str)) = false := by decide)
    (he : starEach (e :: es) X.env = (false, eval e X.env) :: starEach es X.env := by rfl) (hpl : (backTo pos (starEach es X.env)).any (·.1) = false := by rfl) :
    PE X (.Call (.Name x p) (e :: es) [] pos) (tMakeX C sp W t) := by
  obtain ⟨f, fd, F, M, hb⟩ := D.ex
  refine ⟨fun pins s σ H Q I h => ?_⟩
  refine wpAny_Call_Name_kw (ld_glob I hg hm ?_ hdb)
  refine PySem.W.callWith_K (h₀ := X.base) I.ok.mod.kin M.kp (thn (ha.run pos pins s σ H _ I h) fun us s1 ⟨vs, H1, I1, r, q⟩ => ⟨I1.kIn, ?_⟩) he hpl
  exact run_mkX M F hr hb (fun H2 s2 e s' I2 c => passAt tk σ pins H2 s2 e s' I2 c) I1 r q
theorem pe_mkXn (D : DxI X.prog X.w X.K X.mg X.base C k ps sp) (hr : RoomG (k + 1) X.A) (hg : Gl X x) (hm : X.mg x = some (.ref C)) (ha : PA X (e :: es) t) (hdb : (x == ("__debug__" : Str)) = false := by decide)
    (he : starEach (e :: es) X.env = (false, eval e X.env) :: starEach es X.env := by rfl) (hpl : (backTo pos (starEach es X.env)).any (·.1) = false := by rfl) :
    PE X (.Call (.Name x p) (e :: es) [] pos) (tMake C sp [] E0 t) := by
  obtain ⟨f, fd, F, M, hb⟩ := D.ex
  refine ⟨fun pins s σ H Q I h => ?_⟩
  refine wpAny_Call_Name_kw (ld_glob I hg hm ?_ hdb)
  refine PySem.W.callWith_K (h₀ := X.base) I.ok.mod.kin M.kp (thn (ha.run pos pins s σ H _ I h) fun us s1 ⟨vs, H1, I1, r, q⟩ => ⟨I1.kIn, ?_⟩) he hpl
  exact run_mkX M F hr hb (fun _ _ _ _ _ c => (cx_no c).elim) I1 r fun x dx h1 h2 h3 => by
    have z := q x dx h1 h2 h3
    rw [List.append_nil] at z
    exact z
end
/-- bodies that may raise -/
theorem okGX {P : Program} {w : World} {K : PySem.W.Frag} {mg : Str → Option Value} {base : Heap} {x qual : Str} {st : Stmt} {f : Addr} {fd : FuncData} {N ps : List Str} {k : Nat} {sp : Sp} (F : Fun K x qual st f fd) (S : FnScope N ps (defScope st)) (ar : ∀ vs H Q E, sp vs H Q E → vs.length = ps.length)
    (body : ∀ (cdv : Value) (A : Around) (outer : List Env) (s : Shared) (H : Hp) (vs : List V) (Q : VK) (E : XK), RoomG k (A.deeper (envOfC qual (defScope st) s.heap.objs.size f cdv)) → sp vs H Q E →
      ∃ t, PSs (cxOf (L2.CX P w) P w K mg base N qual (defScope st) f cdv A outer s H E) (defBody st) t ∧ t { nx := fun _ H' => Q .non H', rt := Q } (start N vs) H) : FnG P w K mg base (L2.CX P w) (k + 1) f fd ps sp :=
  okGA (toA F) S ar body
/-- a class of errors -/
structure ExcF (K : PySem.W.Frag) (mg : Str → Option Value) (x : Str) : Prop where
  mg_ : mg x = some (.ref (cAt mg x))
  ex : PySem.W.excIn K (cAt mg x) [.type "ValueError", .type "Exception", .type "BaseException", .type "object"] "ValueError.__new__" = true
  kp : PySem.W.keepIn K (.ref (cAt mg x)) = true
  bs : PySem.W.subIn K (.ref (cAt mg x)) (.type "BaseException") = some true
  tp : PySem.W.typeIn K (.ref (cAt mg x)) = some (.type "type")
  is : PySem.W.isClsIn K (cAt mg x) = true
theorem ExcF.of {K : PySem.W.Frag} {mg : Str → Option Value} {x : Str} {C : Addr} (m : mg x = some (.ref C)) (h1 : PySem.W.excIn K C [.type "ValueError", .type "Exception", .type "BaseException", .type "object"] "ValueError.__new__" = true) (h2 : PySem.W.keepIn K (.ref C) = true)
    (h3 : PySem.W.subIn K (.ref C) (.type "BaseException") = some true) (h4 : PySem.W.typeIn K (.ref C) = some (.type "type")) (h5 : PySem.W.isClsIn K C = true) : ExcF K mg x := by
  have e := cAt_eq m
  exact ⟨by rw [e]; exact m, by rw [e]; exact h1, by rw [e]; exact h2, by rw [e]; exact h3, by rw [e]; exact h4, by rw [e]; exact h5⟩
/-- one class stands under another one, or does not -/
def SubF (K : PySem.W.Frag) (mg : Str → Option Value) (x y : Str) (b : Bool) : Prop := PySem.W.subIn K (.ref (cAt mg x)) (.ref (cAt mg y)) = some b
theorem SubF.of {K : PySem.W.Frag} {mg : Str → Option Value} {x y : Str} {C D : Addr} {b : Bool} (m : mg x = some (.ref C)) (m' : mg y = some (.ref D)) (h : PySem.W.subIn K (.ref C) (.ref D) = some b) : SubF K mg x y b := by
  unfold SubF
  rw [cAt_eq m, cAt_eq m']
  exact h
/-- what an except clause asks -/
theorem exm_of {K : PySem.W.Frag} {mg : Str → Option Value} {x y : Str} {b : Bool} (Y : ExcF K mg y) (h : SubF K mg x y b) : PySem.W.exmOne K (.ref (cAt mg x)) (.ref (cAt mg y)) = some b := by
  have e1 : (PySem.W.subIn K (.ref (cAt mg y)) (.type "BaseException") == some true) = true := by rw [Y.bs] <;> rfl
  have e2 : ((PySem.W.clsIn K (cAt mg y)).isSome && PySem.W.typeIn K (.ref (cAt mg y)) == some (.type "type")) = true := by
    have h2' : (PySem.W.clsIn K (cAt mg y)).isSome = true := Y.is
    rw [h2', Y.tp] <;> rfl
  show (if (PySem.W.subIn K (.ref (cAt mg y)) (.type "BaseException") == some true) = true then (if ((PySem.W.clsIn K (cAt mg y)).isSome && PySem.W.typeIn K (.ref (cAt mg y)) == some (.type "type")) = true then PySem.W.subIn K (.ref (cAt mg x)) (.ref (cAt mg y)) else none) else none) = some b
  rw [if_pos e1, if_pos e2]
  exact h
end Toy
namespace Toy
open PySem PySem.Spec PyProof.Rows L2
/-! ### isinstance of a caught error -/
def rIsX (K : PySem.W.Frag) (cls : Value) (d : Option Addr) (a : Addr) : List V → Hp → VK → Prop := fun xs H Q => ∃ (D : Addr) (c : V) (cv : Value) (b : Bool), xs = [.ref a, c] ∧ cls = .ref D ∧ d = none ∧ ExcC K D ∧ ClsV c cv ∧ PySem.W.kitOne K (.ref D) cv = some b ∧ Q (.bl b) H
theorem call_isX {X : Cx} {a : Addr} {cls : Value} {d : Option Addr} {oe : Obj} {pn : List (Addr × Obj)} (hz : Zc cls d oe) (hf : ∃ vs, oe.data = .fields vs) : CallR (X.suite a ((a, oe) :: pn)) (.builtin "isinstance") (rIsX X.K cls d a) := by
  intro pins s σ H xs us Q I r h
  obtain ⟨D, c, cv, b, rfl, rfl, rfl, C, hc, e, q⟩ := h
  exact call_isE C hz hf pins s σ H _ us Q I r ⟨c, cv, b, rfl, fun u ru => hc.eq ru, e, q⟩
/-- .. with a tuple of classes -/
def rIsXT (K : PySem.W.Frag) (cls : Value) (d : Option Addr) (a : Addr) : List V → Hp → VK → Prop := fun xs H Q => ∃ (D tp : Addr) (cs : List V) (us : List Value) (b : Bool), xs = [.ref a, .ref tp] ∧ cls = .ref D ∧ d = none ∧ ExcC K D ∧ H tp = some (.tup cs) ∧ Paired ClsV cs us ∧ PySem.W.kitAny K (.ref D) us = some b ∧ Q (.bl b) H
theorem call_isXT {X : Cx} {a : Addr} {cls : Value} {d : Option Addr} {oe : Obj} {pn : List (Addr × Obj)} (hz : Zc cls d oe) (hf : ∃ vs, oe.data = .fields vs) : CallR (X.suite a ((a, oe) :: pn)) (.builtin "isinstance") (rIsXT X.K cls d a) := by
  intro pins s σ H xs us Q I r h
  obtain ⟨D, tp, cs, ws, b, rfl, rfl, rfl, C, hT, k, e, q⟩ := h
  obtain ⟨u1, u2, rfl, r1, r2⟩ := vals2 r
  cases (show u1 = Value.ref a from r1)
  cases (show u2 = Value.ref tp from r2)
  obtain ⟨hget, _⟩ := I.pin (a, oe) (List.mem_append.mpr (.inl List.mem_cons_self))
  obtain ⟨vs, hv⟩ := hf
  have J : PySem.W.InstAt s.heap a oe D none := by
    obtain ⟨oc, od, oda, osl⟩ := oe
    obtain ⟨h1, h2⟩ := hz
    dsimp only at h1 h2 hv
    subst h1 h2 hv
    exact ⟨hget, rfl, rfl, trivial⟩
  obtain ⟨_, its, rv, o, h1, h2, n, h3⟩ := (show ObjOk (X.suite a ((a, oe) :: pn)).prog (X.suite a ((a, oe) :: pn)).w H s.heap tp (.tup cs) from I.hok tp _ hT)
  have e3 := ClsV.all k rv
  subst e3
  obtain ⟨oc, od, dt, sl⟩ := o
  simp only at h2 h3
  subst h2 h3
  exact PySem.W.kia_tup (PySem.W.handS_kitx_exc C.hg C.hk C.hs C.hd C.ha C.hn C.ht C.hm) I.kIn J h1 e (fun z => nomatch z) fun tk => ⟨.bl b, H, I.kept (t' := tk) fun _ _ z => z, rfl, q⟩
/-- one class, asked by isinstance -/
theorem kitO {K : PySem.W.Frag} {mg : Str → Option Value} {x y : Str} {b : Bool} (Y : ExcF K mg y) (hx : SubF K mg x x true) (h : SubF K mg x y b) : PySem.W.kitOne K (.ref (cAt mg x)) (.ref (cAt mg y)) = some b := by
  unfold PySem.W.kitOne
  by_cases e : (Value.ref (cAt mg x) == Value.ref (cAt mg y)) = true
  · rw [if_pos e]
    have e' : cAt mg x = cAt mg y := Value.ref.inj (beq_iff_eq.mp e)
    unfold SubF at h hx
    rw [← e', hx] at h
    exact h
  · rw [if_neg e]
    have e2 : ((PySem.W.clsIn K (cAt mg y)).isSome && PySem.W.typeIn K (.ref (cAt mg y)) == some (.type "type")) = true := by
      have h2' : (PySem.W.clsIn K (cAt mg y)).isSome = true := Y.is
      rw [h2', Y.tp] <;> rfl
    show (if ((PySem.W.clsIn K (cAt mg y)).isSome && PySem.W.typeIn K (.ref (cAt mg y)) == some (.type "type")) = true then PySem.W.subIn K (.ref (cAt mg x)) (.ref (cAt mg y)) else none) = some b
    rw [if_pos e2]
    exact h
structure ExcI (K : PySem.W.Frag) (mg : Str → Option Value) (x : Str) : Prop where
  c : ExcC K (cAt mg x)
  ve : PySem.W.subIn K (.ref (cAt mg x)) (.type "ValueError") = some true
theorem ExcI.of {K : PySem.W.Frag} {mg : Str → Option Value} {x : Str} {C : Addr} (m : mg x = some (.ref C)) (h : ExcC K C) (v : PySem.W.subIn K (.ref C) (.type "ValueError") = some true) : ExcI K mg x := by
  have e := cAt_eq m
  exact ⟨by rw [e]; exact h, by rw [e]; exact v⟩
theorem kitVE {K : PySem.W.Frag} {mg : Str → Option Value} {x : Str} (h : ExcI K mg x) : PySem.W.kitOne K (.ref (cAt mg x)) (.type "ValueError") = some true := by
  unfold PySem.W.kitOne
  have e : ¬ (Value.ref (cAt mg x) == Value.type "ValueError") = true := fun z => by cases (beq_iff_eq.mp z)
  rw [if_neg e]
  show (if PySem.W.kitMeta "ValueError" = true then PySem.W.subIn K (.ref (cAt mg x)) (.type "ValueError") else none) = some true
  rw [if_pos (by decide +kernel)]
  exact h.ve
end Toy
namespace Toy
open PySem PySem.Spec PyProof.Rows L2
theorem kitAnyF {K : PySem.W.Frag} {mg : Str → Option Value} {t : Value} : ∀ {ys : List Str}, (∀ y ∈ ys, PySem.W.kitOne K t (.ref (cAt mg y)) = some false) → PySem.W.kitAny K t (ys.map fun y => Value.ref (cAt mg y)) = some false
  | [], _ => kitAny_nil
  | y :: ys, h => kitAny_cons (h y List.mem_cons_self) (fun _ => kitAnyF fun z hz => h z (List.mem_cons_of_mem _ hz)) (fun z => by cases z)
theorem pairOwn {mg : Str → Option Value} : ∀ ys : List Str, Paired ClsV (ys.map fun y => V.ref (cAt mg y)) (ys.map fun y => Value.ref (cAt mg y))
  | [] => .nil
  | y :: ys => .cons (.own _) (pairOwn ys)
end Toy
namespace Toy
open PySem L2
def top (i : Nat) : Stmt := PySem.Challenge.pw_joinedasks_k21_boards_and_asks_known.main.body.getD i (.Pass ⟨0, 0, 0, 0⟩)
abbrev s_is_whole : Stmt := top 19
theorem sc_is_whole : FnScope ["thing"] ["thing"] (defScope s_is_whole) := ⟨rfl, rfl, rfl, by decide +kernel, rfl, by decide +kernel, by decide +kernel⟩
abbrev s_is_row_of : Stmt := top 20
theorem sc_is_row_of : FnScope ["thing", "many"] ["thing", "many"] (defScope s_is_row_of) := ⟨rfl, rfl, rfl, by decide +kernel, rfl, by decide +kernel, by decide +kernel⟩
abbrev s_is_end : Stmt := top 22
theorem sc_is_end : FnScope ["thing"] ["thing"] (defScope s_is_end) := ⟨rfl, rfl, rfl, by decide +kernel, rfl, by decide +kernel, by decide +kernel⟩
abbrev s_is_deed : Stmt := top 23
theorem sc_is_deed : FnScope ["thing", "add", "low", "high"] ["thing"] (defScope s_is_deed) := ⟨rfl, rfl, rfl, by decide +kernel, rfl, by decide +kernel, by decide +kernel⟩
abbrev s_is_board : Stmt := top 27
theorem sc_is_board : FnScope ["thing", "value"] ["thing"] (defScope s_is_board) := ⟨rfl, rfl, rfl, by decide +kernel, rfl, by decide +kernel, by decide +kernel⟩
abbrev s_want_board : Stmt := top 28
theorem sc_want_board : FnScope ["board"] ["board"] (defScope s_want_board) := ⟨rfl, rfl, rfl, by decide +kernel, rfl, by decide +kernel, by decide +kernel⟩
abbrev s_is_ask : Stmt := top 29
theorem sc_is_ask : FnScope ["board", "thing"] ["board", "thing"] (defScope s_is_ask) := ⟨rfl, rfl, rfl, by decide +kernel, rfl, by decide +kernel, by decide +kernel⟩
abbrev s_are_asks : Stmt := top 30
theorem sc_are_asks : FnScope ["board", "thing", "one"] ["board", "thing"] (defScope s_are_asks) := ⟨rfl, rfl, rfl, by decide +kernel, rfl, by decide +kernel, by decide +kernel⟩
abbrev s__law_pot : Stmt := top 32
theorem sc__law_pot : FnScope ["_law_script", "_law_k", "_law_primes", "_law_cell"] ["_law_script", "_law_k"] (defScope s__law_pot) := ⟨rfl, rfl, rfl, by decide +kernel, rfl, by decide +kernel, by decide +kernel⟩
abbrev s__law_draw : Stmt := top 33
theorem sc__law_draw : FnScope ["_law_pot_here", "_law_many", "_law_digit"] ["_law_pot_here", "_law_many"] (defScope s__law_draw) := ⟨rfl, rfl, rfl, by decide +kernel, rfl, by decide +kernel, by decide +kernel⟩
abbrev s__law_number : Stmt := top 34
theorem sc__law_number : FnScope ["_law_pot_here", "_law_choice", "_law_far", "_law_k"] ["_law_pot_here"] (defScope s__law_number) := ⟨rfl, rfl, rfl, by decide +kernel, rfl, by decide +kernel, by decide +kernel⟩
abbrev s__law_deed : Stmt := top 35
theorem sc__law_deed : FnScope ["_law_pot_here", "_law_choice", "_law_add", "_law_one", "_law_other_here"] ["_law_pot_here"] (defScope s__law_deed) := ⟨rfl, rfl, rfl, by decide +kernel, rfl, by decide +kernel, by decide +kernel⟩
abbrev s__law_board : Stmt := top 36
theorem sc__law_board : FnScope ["_law_pot_here", "_law_k"] ["_law_pot_here"] (defScope s__law_board) := ⟨rfl, rfl, rfl, by decide +kernel, rfl, by decide +kernel, by decide +kernel⟩
abbrev s__law_asks : Stmt := top 37
theorem sc__law_asks : FnScope ["_law_pot_here", "_law_board_here", "_law_most", "_law_many", "_law_near", "_law_found", "_law_k"] ["_law_pot_here", "_law_board_here", "_law_most"] (defScope s__law_asks) := ⟨rfl, rfl, rfl, by decide +kernel, rfl, by decide +kernel, by decide +kernel⟩
abbrev s__law_is_whole : Stmt := top 38
theorem sc__law_is_whole : FnScope ["_law_thing"] ["_law_thing"] (defScope s__law_is_whole) := ⟨rfl, rfl, rfl, by decide +kernel, rfl, by decide +kernel, by decide +kernel⟩
abbrev s__law_is_deed : Stmt := top 39
theorem sc__law_is_deed : FnScope ["_law_thing", "_law_end"] ["_law_thing"] (defScope s__law_is_deed) := ⟨rfl, rfl, rfl, by decide +kernel, rfl, by decide +kernel, by decide +kernel⟩
abbrev s__law_is_board : Stmt := top 40
theorem sc__law_is_board : FnScope ["_law_thing", "_law_value"] ["_law_thing"] (defScope s__law_is_board) := ⟨rfl, rfl, rfl, by decide +kernel, rfl, by decide +kernel, by decide +kernel⟩
abbrev s__law_is_ask : Stmt := top 41
theorem sc__law_is_ask : FnScope ["_law_board_here", "_law_thing", "_law_one"] ["_law_board_here", "_law_thing"] (defScope s__law_is_ask) := ⟨rfl, rfl, rfl, by decide +kernel, rfl, by decide +kernel, by decide +kernel⟩
abbrev s__law_are_asks : Stmt := top 42
theorem sc__law_are_asks : FnScope ["_law_board_here", "_law_thing", "_law_one"] ["_law_board_here", "_law_thing"] (defScope s__law_are_asks) := ⟨rfl, rfl, rfl, by decide +kernel, rfl, by decide +kernel, by decide +kernel⟩
abbrev s__law_other : Stmt := top 43
theorem sc__law_other : FnScope ["_law_pot_here", "_law_thing", "_law_some"] ["_law_pot_here", "_law_thing"] (defScope s__law_other) := ⟨rfl, rfl, rfl, by decide +kernel, rfl, by decide +kernel, by decide +kernel⟩
abbrev s__law_bent : Stmt := top 44
theorem sc__law_bent : FnScope ["_law_pot_here", "_law_thing", "_law_deep", "_law_choice", "_law_at"] ["_law_pot_here", "_law_thing", "_law_deep"] (defScope s__law_bent) := ⟨rfl, rfl, rfl, by decide +kernel, rfl, by decide +kernel, by decide +kernel⟩
abbrev s__law_spoilt : Stmt := top 45
theorem sc__law_spoilt : FnScope ["_law_pot_here", "_law_thing", "_law_deep", "_law_times", "_law_turn"] ["_law_pot_here", "_law_thing", "_law_deep"] (defScope s__law_spoilt) := ⟨rfl, rfl, rfl, by decide +kernel, rfl, by decide +kernel, by decide +kernel⟩
abbrev s__law_word : Stmt := top 46
theorem sc__law_word : FnScope ["_law_board_here", "_law_thing", "e", "_law_others"] ["_law_board_here", "_law_thing"] (defScope s__law_word) := ⟨rfl, rfl, rfl, by decide +kernel, rfl, by decide +kernel, by decide +kernel⟩
abbrev s__law_by_truths : Stmt := top 47
theorem sc__law_by_truths : FnScope ["_law_thing", "_law_one"] ["_law_thing"] (defScope s__law_by_truths) := ⟨rfl, rfl, rfl, by decide +kernel, rfl, by decide +kernel, by decide +kernel⟩
abbrev s__law_truths_told : Stmt := top 48
theorem sc__law_truths_told : FnScope ["_law_pot_here", "_law_board_here", "_law_asks_here", "_law_strange", "_law_thing", "_law_told", "_law_turn"] ["_law_pot_here"] (defScope s__law_truths_told) := ⟨rfl, rfl, rfl, by decide +kernel, rfl, by decide +kernel, by decide +kernel⟩
abbrev s__law_right : Stmt := top 49
theorem sc__law_right : FnScope ["_law_pot_here", "_law_board_here", "_law_asks_here", "_law_strange", "_law_thing", "_law_kept", "_law_turn", "_law_told", "_law_due"] ["_law_pot_here"] (defScope s__law_right) := ⟨rfl, rfl, rfl, by decide +kernel, rfl, by decide +kernel, by decide +kernel⟩
abbrev s_law : Stmt := top 50
theorem sc_law : FnScope ["_law_script", "_law_k"] ["_law_script"] (defScope s_law) := ⟨rfl, rfl, rfl, by decide +kernel, rfl, by decide +kernel, by decide +kernel⟩
structure Bl (K : PySem.W.Frag) (mg : Str → Option Value) : Prop where
  ValueError_ : mg "ValueError" = none
  all_ : mg "all" = none
  bool_ : mg "bool" = none
  e_ : mg "e" = none
  int_ : mg "int" = none
  isinstance_ : mg "isinstance" = none
  len_ : mg "len" = none
  list_ : mg "list" = none
  max_ : mg "max" = none
  min_ : mg "min" = none
  range_ : mg "range" = none
  repr_ : mg "repr" = none
  str_ : mg "str" = none
  tuple_ : mg "tuple" = none
  MOST_BOXES_ : ∃ t, mg "MOST_BOXES" = some (.int (16) t)
  HANDS_ : ∃ t, mg "HANDS" = some (.int (16) t)
  AskError_ : ExcF K mg "AskError"
  NoAsk_ : ExcF K mg "NoAsk"
  NoBoard_ : ExcF K mg "NoBoard"
  NoCalls_ : ExcF K mg "NoCalls"
  NoDeed_ : ExcF K mg "NoDeed"
  NoHand_ : ExcF K mg "NoHand"
  NoNet_ : ExcF K mg "NoNet"
  NoNumber_ : ExcF K mg "NoNumber"
  NoOrder_ : ExcF K mg "NoOrder"
  NoRow_ : ExcF K mg "NoRow"
  NoSettings_ : ExcF K mg "NoSettings"
  NoSide_ : ExcF K mg "NoSide"
  NoTable_ : ExcF K mg "NoTable"
  NoText_ : ExcF K mg "NoText"
  NoToken_ : ExcF K mg "NoToken"
  NoTree_ : ExcF K mg "NoTree"
  TooMany_ : ExcF K mg "TooMany"
  NoBoard_AskError_ : SubF K mg "NoBoard" "AskError" true
  NoBoard_NoAsk_ : SubF K mg "NoBoard" "NoAsk" false
  NoBoard_NoBoard_ : SubF K mg "NoBoard" "NoBoard" true
  NoBoard_NoCalls_ : SubF K mg "NoBoard" "NoCalls" false
  NoBoard_NoDeed_ : SubF K mg "NoBoard" "NoDeed" false
  NoBoard_NoHand_ : SubF K mg "NoBoard" "NoHand" false
  NoBoard_NoNet_ : SubF K mg "NoBoard" "NoNet" false
  NoBoard_NoNumber_ : SubF K mg "NoBoard" "NoNumber" false
  NoBoard_NoOrder_ : SubF K mg "NoBoard" "NoOrder" false
  NoBoard_NoRow_ : SubF K mg "NoBoard" "NoRow" false
  NoBoard_NoSettings_ : SubF K mg "NoBoard" "NoSettings" false
  NoBoard_NoSide_ : SubF K mg "NoBoard" "NoSide" false
  NoBoard_NoTable_ : SubF K mg "NoBoard" "NoTable" false
  NoBoard_NoText_ : SubF K mg "NoBoard" "NoText" false
  NoBoard_NoToken_ : SubF K mg "NoBoard" "NoToken" false
  NoBoard_NoTree_ : SubF K mg "NoBoard" "NoTree" false
  NoBoard_TooMany_ : SubF K mg "NoBoard" "TooMany" false
  NoBoard_i : ExcI K mg "NoBoard"

/-! ### data: a deed -/
structure Dd where
  add : Int
  low : Option Int
  high : Option Int
def oV : Option Int → V
  | none => .non
  | some i => .int i
def Dd.vs (d : Dd) : List V := [.int d.add, oV d.low, oV d.high]
def Dd.at_ (K : PySem.W.Frag) (H : Hp) (a : Addr) (d : Dd) : Prop := SqT K H a d.vs
/-- the ends stand right -/
def Dd.Ok (d : Dd) : Prop := ∀ l h, d.low = some l → d.high = some h → l < h ∨ (l = h ∧ d.add = 0)
def up (o : Option Int) (f : Int) : Int := match o with | none => f | some l => if f > l then f else l
def dn (o : Option Int) (f : Int) : Int := match o with | none => f | some h => if f < h then f else h
def Dd.ap (d : Dd) (v : Int) : Int := dn d.high (up d.low (v + d.add))
def hi (o : Option Int) (f : Int) : Int := match o with | none => f | some h => if f > h then h else f
def mk (d : Dd) (v : Int) : Int := match d.low with | none => hi d.high (v + d.add) | some l => if v + d.add < l then l else hi d.high (v + d.add)
theorem mk_eq {d : Dd} (ok : d.Ok) (v : Int) : mk d v = d.ap v := by
  obtain ⟨add, low, high⟩ := d
  have ok' := ok
  unfold Dd.Ok at ok'
  cases low with
  | none =>
    cases high with
    | none => rfl
    | some h =>
      show (if v + add > h then h else v + add) = if v + add < h then v + add else h
      by_cases c : v + add > h
      · rw [if_pos c, if_neg (by omega)]
      · rw [if_neg c]
        by_cases c2 : v + add < h
        · rw [if_pos c2]
        · rw [if_neg c2]; omega
  | some l =>
    cases high with
    | none =>
      show (if v + add < l then l else v + add) = if v + add > l then v + add else l
      by_cases c : v + add < l
      · rw [if_pos c, if_neg (by omega)]
      · rw [if_neg c]
        by_cases c2 : v + add > l
        · rw [if_pos c2]
        · rw [if_neg c2]; omega
    | some h =>
      have := ok' l h rfl rfl
      show (if v + add < l then l else if v + add > h then h else v + add) = if (if v + add > l then v + add else l) < h then (if v + add > l then v + add else l) else h
      by_cases c : v + add < l
      · rw [if_pos c, if_neg (show ¬ v + add > l by omega)]
        by_cases c2 : l < h
        · rw [if_pos c2]
        · rw [if_neg c2]; omega
      · rw [if_neg c]
        have e : (if v + add > l then v + add else l) = v + add := by
          by_cases c2 : v + add > l
          · rw [if_pos c2]
          · rw [if_neg c2]; omega
        rw [e]
        by_cases c2 : v + add > h
        · rw [if_pos c2, if_neg (by omega)]
        · rw [if_neg c2]
          by_cases c3 : v + add < h
          · rw [if_pos c3]
          · rw [if_neg c3]; omega
/-- all numbers of a deed are within b -/
def Dd.In (b : Int) (d : Dd) : Prop := -b ≤ d.add ∧ d.add ≤ b ∧ (∀ l, d.low = some l → -b ≤ l ∧ l ≤ b) ∧ ∀ l, d.high = some l → -b ≤ l ∧ l ≤ b
theorem in_mk {b add : Int} {low high : Option Int} (h1 : -b ≤ add) (h2 : add ≤ b) (hl : ∀ l, low = some l → -b ≤ l ∧ l ≤ b) (hh : ∀ l, high = some l → -b ≤ l ∧ l ≤ b) : Dd.In b ⟨add, low, high⟩ := ⟨h1, h2, hl, hh⟩
theorem in_none {b : Int} : ∀ l, (none : Option Int) = some l → -b ≤ l ∧ l ≤ b := fun _ h => nomatch h
theorem in_some {b x : Int} (h1 : -b ≤ x) (h2 : x ≤ b) : ∀ l, some x = some l → -b ≤ l ∧ l ≤ b := fun l h => by cases h; exact ⟨h1, h2⟩
theorem ap_in {b c : Int} {d : Dd} {v : Int} (h : d.In b) (h1 : -c ≤ v) (h2 : v ≤ c) (h0 : 0 ≤ c) : -(b + c) ≤ d.ap v ∧ d.ap v ≤ b + c := by
  obtain ⟨a1, a2, hl, hh⟩ := h
  unfold Dd.ap dn up
  cases el : d.low with
  | none =>
    cases eh : d.high with
    | none => dsimp only; omega
    | some k => have := hh k eh; dsimp only; split <;> omega
  | some l =>
    have := hl l el
    cases eh : d.high with
    | none => dsimp only; split <;> omega
    | some k => have := hh k eh; dsimp only; split <;> split <;> omega
theorem fits {i : Int} (h1 : -(10 ^ 40) ≤ i) (h2 : i ≤ 10 ^ 40) : i.natAbs.log2 < 1920 := by
  refine log_lt (by decide) (Nat.lt_of_le_of_lt (m := 10 ^ 40) (by omega) (by decide))
theorem menu7 : ∀ j : Nat, j < 7 → ∃ z : Int, ([.int 3, .int 5, .int 11, .int 17, .int 29, .int 37, .int 41] : List V)[j]? = some (.int z) ∧ 0 < z ∧ z ≤ 41
  | 0, _ => ⟨_, rfl, by decide, by decide⟩
  | 1, _ => ⟨_, rfl, by decide, by decide⟩
  | 2, _ => ⟨_, rfl, by decide, by decide⟩
  | 3, _ => ⟨_, rfl, by decide, by decide⟩
  | 4, _ => ⟨_, rfl, by decide, by decide⟩
  | 5, _ => ⟨_, rfl, by decide, by decide⟩
  | 6, _ => ⟨_, rfl, by decide, by decide⟩
  | n + 7, h => absurd h (by omega)
theorem menu6 : ∀ j : Nat, j < 6 → ∃ z : Int, ([.int 4, .int 12, .int 1000, .int (10 ^ Int.toNat 9), .int (10 ^ Int.toNat 29), .int (10 ^ Int.toNat 29)] : List V)[j]? = some (.int z) ∧ 1 ≤ z ∧ z ≤ 10 ^ 29
  | 0, _ => ⟨_, rfl, by decide, by decide⟩
  | 1, _ => ⟨_, rfl, by decide, by decide⟩
  | 2, _ => ⟨_, rfl, by decide, by decide⟩
  | 3, _ => ⟨_, rfl, by decide, by decide⟩
  | 4, _ => ⟨_, rfl, by decide, by decide⟩
  | 5, _ => ⟨_, rfl, by decide, by decide⟩
  | n + 6, h => absurd h (by omega)
def PotAt (H : Hp) (p : Addr) : Prop := ∃ a b : Int, H p = some (.lst [.int a, .int b]) ∧ 0 ≤ a ∧ 0 ≤ b ∧ b < 2 ^ 40
theorem PotAt.same {H H' : Hp} {p : Addr} (e : Same H H') (h : PotAt H p) : PotAt H' p := by
  obtain ⟨a, b, h1, h2⟩ := h
  exact ⟨a, b, e _ _ h1, h2⟩
def DeedArg (K : PySem.W.Frag) (H : Hp) (a : Addr) (d : Dd) : Prop := TyX K H (.ref a) (.type "tuple") ∧ SqT K H a d.vs ∧ d.Ok
def Dz (H : Hp) (a : Addr) (d : Dd) : Prop := H a = some (.tup d.vs) ∧ d.In (10 ^ 29 + 3) ∧ d.Ok
theorem Dz.arg {K : PySem.W.Frag} {H : Hp} {a : Addr} {d : Dd} (h : Dz H a d) : DeedArg K H a d := ⟨.base (.tup h.1), SqT.of h.1, h.2.2⟩
theorem Dz.same {H H' : Hp} {a : Addr} {d : Dd} (e : Same H H') (h : Dz H a d) : Dz H' a d := ⟨e _ _ h.1, h.2⟩
def look : Dd := ⟨0, none, none⟩
theorem look_ok : look.Ok := fun _ _ h => nomatch h
theorem look_in {b : Int} (h : 0 ≤ b) : look.In b := in_mk (by omega) (by omega) in_none in_none
theorem pot_ne {H : Hp} {p a : Addr} (h : PotAt H p) (n : H a = none) : a ≠ p := fun z => by obtain ⟨_, _, h1, _⟩ := h; rw [← z, n] at h1; cases h1
/-! ### two deeds as one -/
def wholeD (add : Int) (low high : Option Int) : Dd := if low ≠ none ∧ low = high then ⟨0, low, high⟩ else ⟨add, low, high⟩
theorem wholeD_low {add : Int} {low high : Option Int} : (wholeD add low high).low = low := by unfold wholeD; split <;> rfl
theorem wholeD_high {add : Int} {low high : Option Int} : (wholeD add low high).high = high := by unfold wholeD; split <;> rfl
theorem wholeD_add {add : Int} {low high : Option Int} : (wholeD add low high).add = if low ≠ none ∧ low = high then 0 else add := by unfold wholeD; split <;> rfl
def endBeh (b : Dd) (o p : Option Int) : Option Int := match o with | none => p | some l => some (b.ap l)
def beh (a b : Dd) : Dd := wholeD (a.add + b.add) (endBeh b a.low b.low) (endBeh b a.high b.high)
theorem up_mono {o : Option Int} {x y : Int} (h : x ≤ y) : up o x ≤ up o y := by
  cases o with
  | none => exact h
  | some l =>
    show (if x > l then x else l) ≤ (if y > l then y else l)
    split <;> split <;> omega
theorem dn_mono {o : Option Int} {x y : Int} (h : x ≤ y) : dn o x ≤ dn o y := by
  cases o with
  | none => exact h
  | some l =>
    show (if x < l then x else l) ≤ (if y < l then y else l)
    split <;> split <;> omega
theorem ap_mono (d : Dd) {x y : Int} (h : x ≤ y) : d.ap x ≤ d.ap y := dn_mono (up_mono (by omega))
/-- what is made, by the four ways -/
theorem ap_nn (d : Dd) (v : Int) (h1 : d.low = none) (h2 : d.high = none) : d.ap v = v + d.add := by unfold Dd.ap; rw [h1, h2] <;> rfl
theorem ap_sn (d : Dd) (v l : Int) (h1 : d.low = some l) (h2 : d.high = none) : d.ap v = if v + d.add > l then v + d.add else l := by unfold Dd.ap; rw [h1, h2] <;> rfl
theorem ap_ns (d : Dd) (v h : Int) (h1 : d.low = none) (h2 : d.high = some h) : d.ap v = if v + d.add < h then v + d.add else h := by unfold Dd.ap; rw [h1, h2] <;> rfl
theorem ap_ss (d : Dd) (v l h : Int) (h1 : d.low = some l) (h2 : d.high = some h) : d.ap v = if (if v + d.add > l then v + d.add else l) < h then (if v + d.add > l then v + d.add else l) else h := by unfold Dd.ap; rw [h1, h2] <;> rfl
/-- facts for omega -/
theorem ap_cases (d : Dd) (ok : d.Ok) (v : Int) :
    (∀ l, d.low = some l → l ≤ d.ap v ∧ (v + d.add ≤ l → d.ap v = l)) ∧ (∀ h, d.high = some h → d.ap v ≤ h ∧ (h ≤ v + d.add → d.ap v = h)) ∧
    ((d.low = none ∨ ∃ l, d.low = some l ∧ l ≤ v + d.add) → (d.high = none ∨ ∃ h, d.high = some h ∧ v + d.add ≤ h) → d.ap v = v + d.add) := by
  cases e1 : d.low with
  | none =>
    cases e2 : d.high with
    | none =>
      rw [ap_nn d v e1 e2]
      exact ⟨fun _ h => (nomatch h), fun _ h => (nomatch h), fun _ _ => rfl⟩
    | some h =>
      rw [ap_ns d v h e1 e2]
      refine ⟨fun _ h => (nomatch h), fun k hk => ?_, fun _ h2 => ?_⟩
      · cases hk; split <;> omega
      · rcases h2 with h2 | ⟨k, hk, h2⟩
        · cases h2
        · cases hk; split <;> omega
  | some l =>
    cases e2 : d.high with
    | none =>
      rw [ap_sn d v l e1 e2]
      refine ⟨fun k hk => ?_, fun _ h => (nomatch h), fun h1 _ => ?_⟩
      · cases hk; split <;> omega
      · rcases h1 with h1 | ⟨k, hk, h1⟩
        · cases h1
        · cases hk; split <;> omega
    | some h =>
      have o := ok l h e1 e2
      rw [ap_ss d v l h e1 e2]
      refine ⟨fun k hk => ?_, fun k hk => ?_, fun h1 h2 => ?_⟩
      · cases hk
        by_cases c : v + d.add > l
        · rw [if_pos c]; split <;> omega
        · rw [if_neg c]; split <;> omega
      · cases hk
        by_cases c : v + d.add > l
        · rw [if_pos c]; split <;> omega
        · rw [if_neg c]; split <;> omega
      · rcases h1 with h1 | ⟨k, hk, h1⟩
        · cases h1
        rcases h2 with h2 | ⟨k', hk', h2⟩
        · cases h2
        cases hk; cases hk'
        by_cases c : v + d.add > l
        · rw [if_pos c]; split <;> omega
        · rw [if_neg c]; split <;> omega
theorem beh_ok {a b : Dd} (ha : a.Ok) (hb : b.Ok) : (beh a b).Ok := by
  intro l h h1 h2
  unfold beh at h1 h2 ⊢
  rw [wholeD_low] at h1
  rw [wholeD_high] at h2
  rw [wholeD_add]
  have key : l ≤ h := by
    unfold endBeh at h1 h2
    cases e1 : a.low with
    | none =>
      rw [e1] at h1
      cases e2 : a.high with
      | none =>
        rw [e2] at h2
        have := hb l h h1 h2
        omega
      | some k =>
        rw [e2] at h2
        cases h2
        exact ((ap_cases b hb k).1 l h1).1
    | some j =>
      rw [e1] at h1
      cases h1
      cases e2 : a.high with
      | none =>
        rw [e2] at h2
        exact ((ap_cases b hb j).2.1 h h2).1
      | some k =>
        rw [e2] at h2
        cases h2
        have := ha j k e1 e2
        exact ap_mono b (by omega)
  by_cases c : l = h
  · right
    refine ⟨c, if_pos ⟨by rw [h1]; exact Option.some_ne_none l, by rw [h1, h2, c]⟩⟩
  · left; omega
/-- the ends of a deed -/
theorem ap_low {d : Dd} (ok : d.Ok) {l v : Int} (h : d.low = some l) (hv : v + d.add ≤ l) : d.ap v = l := ((ap_cases d ok v).1 l h).2 hv
theorem ap_high {d : Dd} (ok : d.Ok) {l v : Int} (h : d.high = some l) (hv : l ≤ v + d.add) : d.ap v = l := ((ap_cases d ok v).2.1 l h).2 hv
theorem whole_ap {add : Int} {low high : Option Int} {v w : Int} (hl : ∀ l, low = some l → l ≤ w) (hh : ∀ h, high = some h → w ≤ h)
    (h1 : (∀ l, low = some l → v + add ≤ l → w = l)) (h2 : (∀ h, high = some h → h ≤ v + add → w = h))
    (h3 : (low = none ∨ ∃ l, low = some l ∧ l ≤ v + add) → (high = none ∨ ∃ h, high = some h ∧ v + add ≤ h) → w = v + add) : (wholeD add low high).ap v = w := by
  cases e1 : low with
  | none =>
    have e3 : wholeD add none high = ⟨add, none, high⟩ := by unfold wholeD; rw [if_neg (fun z => z.1 rfl)]
    rw [e3]
    cases e2 : high with
    | none => rw [ap_nn _ _ rfl rfl]; exact (h3 (.inl e1) (.inl e2)).symm
    | some h =>
      rw [ap_ns _ _ h rfl rfl]
      show (if v + add < h then v + add else h) = w
      have a2 := h2 h e2
      have a3 := h3 (.inl e1)
      split
      · exact (a3 (.inr ⟨h, e2, by omega⟩)).symm
      · exact (a2 (by omega)).symm
  | some l =>
    have b1 := hl l e1
    cases e2 : high with
    | none =>
      have e3 : wholeD add (some l) none = ⟨add, some l, none⟩ := by unfold wholeD; rw [if_neg (fun z => nomatch z.2)]
      rw [e3, ap_sn _ _ l rfl rfl]
      show (if v + add > l then v + add else l) = w
      have a1 := h1 l e1
      split
      · exact (h3 (.inr ⟨l, e1, by omega⟩) (.inl e2)).symm
      · exact (a1 (by omega)).symm
    | some h =>
      have b2 := hh h e2
      by_cases c : l = h
      · subst c
        have e3 : wholeD add (some l) (some l) = ⟨0, some l, some l⟩ := by unfold wholeD; rw [if_pos ⟨Option.some_ne_none l, rfl⟩]
        rw [e3, ap_ss _ _ l l rfl rfl]
        split <;> omega
      · have e3 : wholeD add (some l) (some h) = ⟨add, some l, some h⟩ := by unfold wholeD; rw [if_neg (fun z => c (Option.some.inj z.2))]
        rw [e3, ap_ss _ _ l h rfl rfl]
        show (if (if v + add > l then v + add else l) < h then (if v + add > l then v + add else l) else h) = w
        have a1 := h1 l e1
        have a2 := h2 h e2
        by_cases c1 : v + add > l
        · rw [if_pos c1]
          split
          · exact (h3 (.inr ⟨l, e1, by omega⟩) (.inr ⟨h, e2, by omega⟩)).symm
          · exact (a2 (by omega)).symm
        · rw [if_neg c1]
          have := a1 (by omega)
          split <;> omega
theorem beh_ap {a b : Dd} (ha : a.Ok) (hb : b.Ok) (v : Int) : (beh a b).ap v = b.ap (a.ap v) := by
  obtain ⟨A1, A2, A3⟩ := ap_cases a ha v
  obtain ⟨B1, B2, B3⟩ := ap_cases b hb (a.ap v)
  have P3 : ∀ l, endBeh b a.low b.low = some l → v + (a.add + b.add) ≤ l → b.ap (a.ap v) = l := by
    intro l hl hv
    unfold endBeh at hl
    cases e : a.low with
    | none =>
      rw [e] at hl
      refine (B1 l hl).2 ?_
      cases e2 : a.high with
      | none => rw [A3 (.inl e) (.inl e2)]; omega
      | some k =>
        by_cases c : v + a.add ≤ k
        · rw [A3 (.inl e) (.inr ⟨k, e2, c⟩)]; omega
        · rw [(A2 k e2).2 (by omega)]; omega
    | some j =>
      rw [e] at hl
      cases hl
      -- v + a.add + b.add ≤ b.ap j
      by_cases c : v + a.add ≤ j
      · rw [(A1 j e).2 c]
      · have m : b.ap j ≤ b.ap (a.ap v) := ap_mono b (A1 j e).1
        have n : b.ap (a.ap v) ≤ b.ap (v + a.add) := by
          refine ap_mono b ?_
          cases e2 : a.high with
          | none => rw [A3 (.inr ⟨j, e, by omega⟩) (.inl e2)]; omega
          | some k =>
            by_cases c : v + a.add ≤ k
            · rw [A3 (.inr ⟨j, e, by omega⟩) (.inr ⟨k, e2, c⟩)]; omega
            · rw [(A2 k e2).2 (by omega)]; omega
        -- b at v + a.add is at most max of its sum and its low end
        obtain ⟨C1, C2, C3⟩ := ap_cases b hb (v + a.add)
        obtain ⟨D1, D2, D3⟩ := ap_cases b hb j
        cases f1 : b.low with
        | none =>
          cases f2 : b.high with
          | none => have := C3 (.inl f1) (.inl f2); have := D3 (.inl f1) (.inl f2); omega
          | some k =>
            have := C2 k f2; have := D2 k f2
            by_cases c3 : v + a.add + b.add ≤ k
            · have := C3 (.inl f1) (.inr ⟨k, f2, c3⟩); have := D3 (.inl f1) (.inr ⟨k, f2, by omega⟩); omega
            · omega
        | some i =>
          have := C1 i f1; have := D1 i f1
          cases f2 : b.high with
          | none =>
            by_cases c3 : i ≤ v + a.add + b.add
            · have := C3 (.inr ⟨i, f1, c3⟩) (.inl f2)
              by_cases c4 : i ≤ j + b.add
              · have := D3 (.inr ⟨i, f1, c4⟩) (.inl f2); omega
              · omega
            · omega
          | some k =>
            have := C2 k f2; have := D2 k f2
            by_cases c3 : i ≤ v + a.add + b.add
            · by_cases c5 : v + a.add + b.add ≤ k
              · have := C3 (.inr ⟨i, f1, c3⟩) (.inr ⟨k, f2, c5⟩)
                by_cases c4 : i ≤ j + b.add
                · have := D3 (.inr ⟨i, f1, c4⟩) (.inr ⟨k, f2, by omega⟩); omega
                · omega
              · omega
            · omega
  have P4 : ∀ h, endBeh b a.high b.high = some h → h ≤ v + (a.add + b.add) → b.ap (a.ap v) = h := by
    intro h hh hv
    unfold endBeh at hh
    cases e : a.high with
    | none =>
      rw [e] at hh
      refine (B2 h hh).2 ?_
      cases e2 : a.low with
      | none => rw [A3 (.inl e2) (.inl e)]; omega
      | some k =>
        by_cases c : k ≤ v + a.add
        · rw [A3 (.inr ⟨k, e2, c⟩) (.inl e)]; omega
        · rw [(A1 k e2).2 (by omega)]; omega
    | some j =>
      rw [e] at hh
      cases hh
      by_cases c : j ≤ v + a.add
      · rw [(A2 j e).2 c]
      · have m : b.ap (a.ap v) ≤ b.ap j := ap_mono b (A2 j e).1
        have n : b.ap (v + a.add) ≤ b.ap (a.ap v) := by
          refine ap_mono b ?_
          cases e2 : a.low with
          | none => rw [A3 (.inl e2) (.inr ⟨j, e, by omega⟩)]; omega
          | some k =>
            by_cases c : k ≤ v + a.add
            · rw [A3 (.inr ⟨k, e2, c⟩) (.inr ⟨j, e, by omega⟩)]; omega
            · rw [(A1 k e2).2 (by omega)]; omega
        obtain ⟨C1, C2, C3⟩ := ap_cases b hb (v + a.add)
        obtain ⟨D1, D2, D3⟩ := ap_cases b hb j
        cases f1 : b.high with
        | none =>
          cases f2 : b.low with
          | none => have := C3 (.inl f2) (.inl f1); have := D3 (.inl f2) (.inl f1); omega
          | some k =>
            have := C1 k f2; have := D1 k f2
            by_cases c3 : k ≤ v + a.add + b.add
            · have := C3 (.inr ⟨k, f2, c3⟩) (.inl f1); have := D3 (.inr ⟨k, f2, by omega⟩) (.inl f1); omega
            · omega
        | some i =>
          have := C2 i f1; have := D2 i f1
          cases f2 : b.low with
          | none =>
            by_cases c3 : v + a.add + b.add ≤ i
            · have := C3 (.inl f2) (.inr ⟨i, f1, c3⟩)
              by_cases c4 : j + b.add ≤ i
              · have := D3 (.inl f2) (.inr ⟨i, f1, c4⟩); omega
              · omega
            · omega
          | some k =>
            have := C1 k f2; have := D1 k f2
            by_cases c3 : v + a.add + b.add ≤ i
            · by_cases c5 : k ≤ v + a.add + b.add
              · have := C3 (.inr ⟨k, f2, c5⟩) (.inr ⟨i, f1, c3⟩)
                by_cases c4 : j + b.add ≤ i
                · have := D3 (.inr ⟨k, f2, by omega⟩) (.inr ⟨i, f1, c4⟩); omega
                · omega
              · omega
            · omega
  unfold beh
  refine whole_ap (fun l hl => ?_) (fun h hh => ?_) P3 P4 (fun h1 h2 => ?_)
  · unfold endBeh at hl
    cases e : a.low with
    | none => rw [e] at hl; exact (B1 l hl).1
    | some j => rw [e] at hl; cases hl; exact ap_mono b (A1 j e).1
  · unfold endBeh at hh
    cases e : a.high with
    | none => rw [e] at hh; exact (B2 h hh).1
    | some j => rw [e] at hh; cases hh; exact ap_mono b (A2 j e).1
  · -- between the ends both add
    by_cases s1 : ∃ l, endBeh b a.low b.low = some l ∧ v + (a.add + b.add) ≤ l
    · obtain ⟨l, s1, s2⟩ := s1
      rw [P3 l s1 s2]
      rcases h1 with h1 | ⟨l', h1, h4⟩
      · rw [s1] at h1; cases h1
      · rw [s1] at h1; cases h1; omega
    by_cases s2 : ∃ l, endBeh b a.high b.high = some l ∧ l ≤ v + (a.add + b.add)
    · obtain ⟨l, s2, s3⟩ := s2
      rw [P4 l s2 s3]
      rcases h2 with h2 | ⟨l', h2, h4⟩
      · rw [s2] at h2; cases h2
      · rw [s2] at h2; cases h2; omega
    have h1s : ∀ l, endBeh b a.low b.low = some l → l < v + (a.add + b.add) := fun l hl => Int.not_le.mp fun z => s1 ⟨l, hl, z⟩
    have h2s : ∀ l, endBeh b a.high b.high = some l → v + (a.add + b.add) < l := fun l hl => Int.not_le.mp fun z => s2 ⟨l, hl, z⟩
    have a1 : a.low = none ∨ ∃ l, a.low = some l ∧ l ≤ v + a.add := by
      cases e : a.low with
      | none => exact .inl rfl
      | some j =>
        right
        refine ⟨j, rfl, ?_⟩
        rcases h1 with h1 | ⟨l, h1, h4⟩
        · unfold endBeh at h1; rw [e] at h1; cases h1
        have st := h1s l h1
        unfold endBeh at h1; rw [e] at h1; cases h1
        by_cases c : j ≤ v + a.add
        · exact c
        obtain ⟨D1, D2, D3⟩ := ap_cases b hb j
        exfalso
        cases f2 : b.high with
        | none =>
          cases f1 : b.low with
          | none => have := D3 (.inl f1) (.inl f2); omega
          | some i => have := D1 i f1; by_cases c4 : i ≤ j + b.add; (have := D3 (.inr ⟨i, f1, c4⟩) (.inl f2); omega); omega
        | some k =>
          have := D2 k f2
          by_cases c5 : j + b.add ≤ k
          · cases f1 : b.low with
            | none => have := D3 (.inl f1) (.inr ⟨k, f2, c5⟩); omega
            | some i => have := D1 i f1; by_cases c4 : i ≤ j + b.add; (have := D3 (.inr ⟨i, f1, c4⟩) (.inr ⟨k, f2, c5⟩); omega); omega
          · have e5 : b.ap j = k := this.2 (by omega)
            -- the upper end is met: then high of both is k
            rcases h2 with h2 | ⟨h, h2, h6⟩
            · unfold endBeh at h2; cases e7 : a.high with
              | none => rw [e7] at h2; rw [f2] at h2; cases h2
              | some m => rw [e7] at h2; cases h2
            · unfold endBeh at h2; cases e7 : a.high with
              | none => rw [e7] at h2; rw [f2] at h2; cases h2; omega
              | some m =>
                rw [e7] at h2; cases h2
                have o := ha j m e e7
                have q1 := ap_mono b (show j ≤ m by omega)
                have q2 := ((ap_cases b hb m).2.1 k f2).1
                omega
    have a2 : a.high = none ∨ ∃ l, a.high = some l ∧ v + a.add ≤ l := by
      cases e : a.high with
      | none => exact .inl rfl
      | some j =>
        right
        refine ⟨j, rfl, ?_⟩
        rcases h2 with h2 | ⟨l, h2, h4⟩
        · unfold endBeh at h2; rw [e] at h2; cases h2
        have st := h2s l h2
        unfold endBeh at h2; rw [e] at h2; cases h2
        by_cases c : v + a.add ≤ j
        · exact c
        obtain ⟨D1, D2, D3⟩ := ap_cases b hb j
        exfalso
        cases f2 : b.low with
        | none =>
          cases f1 : b.high with
          | none => have := D3 (.inl f2) (.inl f1); omega
          | some i => have := D2 i f1; by_cases c4 : j + b.add ≤ i; (have := D3 (.inl f2) (.inr ⟨i, f1, c4⟩); omega); omega
        | some k =>
          have := D1 k f2
          by_cases c5 : k ≤ j + b.add
          · cases f1 : b.high with
            | none => have := D3 (.inr ⟨k, f2, c5⟩) (.inl f1); omega
            | some i => have := D2 i f1; by_cases c4 : j + b.add ≤ i; (have := D3 (.inr ⟨k, f2, c5⟩) (.inr ⟨i, f1, c4⟩); omega); omega
          · have e5 : b.ap j = k := this.2 (by omega)
            rcases h1 with h1 | ⟨h, h1, h6⟩
            · unfold endBeh at h1; cases e7 : a.low with
              | none => rw [e7] at h1; rw [f2] at h1; cases h1
              | some m => rw [e7] at h1; cases h1
            · unfold endBeh at h1; cases e7 : a.low with
              | none => rw [e7] at h1; rw [f2] at h1; cases h1; omega
              | some m =>
                rw [e7] at h1; cases h1
                have o := ha m j e7 e
                have q1 := ap_mono b (show m ≤ j by omega)
                have q2 := ((ap_cases b hb m).1 k f2).1
                omega
    have ea := A3 a1 a2
    rw [ea] at B1 B2 B3 ⊢
    have b1 : b.low = none ∨ ∃ l, b.low = some l ∧ l ≤ v + a.add + b.add := by
      cases f : b.low with
      | none => exact .inl rfl
      | some i =>
        refine .inr ⟨i, rfl, ?_⟩
        rcases h1 with h1 | ⟨l, h1, h4⟩
        · unfold endBeh at h1; cases e7 : a.low with
          | none => rw [e7] at h1; rw [f] at h1; cases h1
          | some m => rw [e7] at h1; cases h1
        · unfold endBeh at h1; cases e7 : a.low with
          | none => rw [e7] at h1; rw [f] at h1; cases h1; omega
          | some m => rw [e7] at h1; cases h1; have := ((ap_cases b hb m).1 i f).1; omega
    have b2 : b.high = none ∨ ∃ l, b.high = some l ∧ v + a.add + b.add ≤ l := by
      cases f : b.high with
      | none => exact .inl rfl
      | some i =>
        refine .inr ⟨i, rfl, ?_⟩
        rcases h2 with h2 | ⟨l, h2, h4⟩
        · unfold endBeh at h2; cases e7 : a.high with
          | none => rw [e7] at h2; rw [f] at h2; cases h2
          | some m => rw [e7] at h2; cases h2
        · unfold endBeh at h2; cases e7 : a.high with
          | none => rw [e7] at h2; rw [f] at h2; cases h2; omega
          | some m => rw [e7] at h2; cases h2; have := ((ap_cases b hb m).2.1 i f).1; omega
    rw [B3 b1 b2]; omega
theorem beh_in {a b : Dd} {x y : Int} (ha : a.In x) (hb : b.In y) (h0 : 0 ≤ x) (h1 : 0 ≤ y) : (beh a b).In (y + x) := by
  obtain ⟨a1, a2, a3, a4⟩ := ha
  have hb' := hb
  obtain ⟨b1, b2, b3, b4⟩ := hb
  refine ⟨?_, ?_, fun l hl => ?_, fun l hl => ?_⟩
  · unfold beh; rw [wholeD_add]; split <;> omega
  · unfold beh; rw [wholeD_add]; split <;> omega
  · unfold beh at hl; rw [wholeD_low] at hl; unfold endBeh at hl
    cases e : a.low with
    | none => rw [e] at hl; have := b3 l hl; omega
    | some j => rw [e] at hl; cases hl; exact ap_in hb' (a3 j e).1 (a3 j e).2 h0
  · unfold beh at hl; rw [wholeD_high] at hl; unfold endBeh at hl
    cases e : a.high with
    | none => rw [e] at hl; have := b4 l hl; omega
    | some j => rw [e] at hl; cases hl; exact ap_in hb' (a4 j e).1 (a4 j e).2 h0
/-- far out a deed shows its ends -/
theorem far_low {d : Dd} {b F : Int} (ok : d.Ok) (i : d.In b) (hF : 3 * b + 2 ≤ F) (h0 : 0 ≤ b) : (if d.ap (-F - 1) = d.ap (-F) then some (d.ap (-F)) else none) = d.low := by
  obtain ⟨i1, i2, i3, i4⟩ := i
  cases e : d.low with
  | some l =>
    have := i3 l e
    rw [ap_low ok e (show -F - 1 + d.add ≤ l by omega), ap_low ok e (show -F + d.add ≤ l by omega), if_pos rfl]
  | none =>
    have k : ∀ v : Int, v ≤ -F → d.ap v = v + d.add := fun v hv => by
      refine (ap_cases d ok v).2.2 (.inl e) ?_
      cases f : d.high with
      | none => exact .inl rfl
      | some h => have := i4 h f; exact .inr ⟨h, rfl, by omega⟩
    rw [k _ (by omega), k _ (by omega), if_neg (by omega)]
theorem far_high {d : Dd} {b F : Int} (ok : d.Ok) (i : d.In b) (hF : 3 * b + 2 ≤ F) (h0 : 0 ≤ b) : (if d.ap F = d.ap (F + 1) then some (d.ap F) else none) = d.high := by
  obtain ⟨i1, i2, i3, i4⟩ := i
  cases e : d.high with
  | some l =>
    have := i4 l e
    rw [ap_high ok e (show l ≤ F + 1 + d.add by omega), ap_high ok e (show l ≤ F + d.add by omega), if_pos rfl]
  | none =>
    have k : ∀ v : Int, F ≤ v → d.ap v = v + d.add := fun v hv => by
      refine (ap_cases d ok v).2.2 ?_ (.inl e)
      cases f : d.low with
      | none => exact .inl rfl
      | some h => have := i3 h f; exact .inr ⟨h, rfl, by omega⟩
    rw [k _ (by omega), k _ (by omega), if_neg (by omega)]
theorem bound_of (d : Dd) : ∃ b, 0 ≤ b ∧ d.In b := by
  obtain ⟨a, l, h⟩ := d
  refine ⟨a.natAbs + (l.getD 0).natAbs + (h.getD 0).natAbs, by omega, in_mk (by omega) (by omega) (fun x hx => ?_) fun x hx => ?_⟩
  · cases hx; simp only [Option.getD_some]; omega
  · cases hx; simp only [Option.getD_some]; omega
theorem In.le {d : Dd} {a b : Int} (h : d.In a) (e : a ≤ b) : d.In b := ⟨by have := h.1; omega, by have := h.2.1; omega, fun l hl => by have := h.2.2.1 l hl; omega, fun l hl => by have := h.2.2.2 l hl; omega⟩
/-- there is just one deed that makes the same of all -/
theorem ap_ext {d e : Dd} (hd : d.Ok) (he : e.Ok) (h : ∀ v, d.ap v = e.ap v) : d = e := by
  obtain ⟨b, b0, hb⟩ := bound_of d
  obtain ⟨c, c0, hc⟩ := bound_of e
  have l1 := far_low (F := 3 * (b + c) + 2) hd (In.le hb (show b ≤ b + c by omega)) (by omega) (by omega)
  have l2 := far_low (F := 3 * (b + c) + 2) he (In.le hc (show c ≤ b + c by omega)) (by omega) (by omega)
  have h1 := far_high (F := 3 * (b + c) + 2) hd (In.le hb (show b ≤ b + c by omega)) (by omega) (by omega)
  have h2 := far_high (F := 3 * (b + c) + 2) he (In.le hc (show c ≤ b + c by omega)) (by omega) (by omega)
  rw [h, h, l2] at l1
  rw [h, h, h2] at h1
  have ea : d.add = e.add := by
    cases e1 : d.low with
    | none =>
      cases e2 : d.high with
      | none =>
        have := h 0
        rw [ap_nn d 0 e1 e2, ap_nn e 0 (l1.trans e1) (h1.trans e2)] at this
        omega
      | some k =>
        have := h (k - 1 - b - c)
        have q1 := hb.1; have q2 := hb.2.1; have q3 := hc.1; have q4 := hc.2.1
        rw [ap_ns d _ k e1 e2, ap_ns e _ k (l1.trans e1) (h1.trans e2), if_pos (by omega), if_pos (by omega)] at this
        omega
    | some l =>
      cases e2 : d.high with
      | none =>
        have := h (l + 1 + b + c)
        have q1 := hb.1; have q2 := hb.2.1; have q3 := hc.1; have q4 := hc.2.1
        rw [ap_sn d _ l e1 e2, ap_sn e _ l (l1.trans e1) (h1.trans e2), if_pos (by omega), if_pos (by omega)] at this
        omega
      | some k =>
        have o1 := hd l k e1 e2
        have o2 := he l k (l1.trans e1) (h1.trans e2)
        by_cases c1 : l = k
        · omega
        · have g1 := h (l - d.add)
          have g2 := h (l - d.add + 1)
          obtain ⟨C1, C2, C3⟩ := ap_cases e he (l - d.add)
          obtain ⟨D1, D2, D3⟩ := ap_cases e he (l - d.add + 1)
          rw [ap_low hd e1 (by omega)] at g1
          rw [(ap_cases d hd (l - d.add + 1)).2.2 (.inr ⟨l, e1, by omega⟩) (.inr ⟨k, e2, by omega⟩)] at g2
          have := C1 l (l1.trans e1); have := C2 k (h1.trans e2); have := D1 l (l1.trans e1); have := D2 k (h1.trans e2)
          by_cases c2 : l ≤ l - d.add + e.add
          · by_cases c3 : l - d.add + e.add ≤ k
            · have := C3 (.inr ⟨l, l1.trans e1, c2⟩) (.inr ⟨k, h1.trans e2, c3⟩); omega
            · omega
          · by_cases c3 : l ≤ l - d.add + 1 + e.add
            · have := D3 (.inr ⟨l, l1.trans e1, c3⟩) (.inr ⟨k, h1.trans e2, by omega⟩); omega
            · omega
  obtain ⟨a1, a2, a3⟩ := d
  obtain ⟨b1, b2, b3⟩ := e
  cases ea; cases l1; cases h1
  rfl
theorem beh_assoc {a b c : Dd} (ha : a.Ok) (hb : b.Ok) (hc : c.Ok) : beh (beh a b) c = beh a (beh b c) :=
  ap_ext (beh_ok (beh_ok ha hb) hc) (beh_ok ha (beh_ok hb hc)) fun v => by rw [beh_ap (beh_ok ha hb) hc, beh_ap ha hb, beh_ap ha (beh_ok hb hc), beh_ap hb hc]
theorem look_ap (v : Int) : look.ap v = v := by show v + 0 = v; omega
theorem beh_look {a : Dd} (ha : a.Ok) : beh a look = a := ap_ext (beh_ok ha look_ok) ha fun v => by rw [beh_ap ha look_ok, look_ap]
theorem look_beh {a : Dd} (ha : a.Ok) : beh look a = a := ap_ext (beh_ok look_ok ha) ha fun v => by rw [beh_ap look_ok ha, look_ap]
/-! ### a deed as data -/
def po : Option Int → PyData
  | none => .none
  | some i => .int i
def pd (d : Dd) : PyData := .tuple [.int d.add, po d.low, po d.high]
theorem po_dp {K : PySem.W.Frag} {H : Hp} (o : Option Int) : Dp K H (oV o) (po o) := by
  cases o with
  | none => exact .non
  | some i => exact .int i
theorem pd_dp {K : PySem.W.Frag} {H : Hp} {a : Addr} {d : Dd} (h : SqT K H a d.vs) : Dp K H (.ref a) (pd d) := .tup h (.cons (.int _) (.cons (po_dp _) (.cons (po_dp _) .nil)))
theorem pd_sh (d : Dd) : SeqAt.shaped (pd d) = true := by
  obtain ⟨a, l, h⟩ := d
  cases l <;> cases h <;> rfl
theorem pd_refl (d : Dd) : PyData.eqv (pd d) (pd d) = true := SeqAt.eqv_refl _ (SeqAt.canLay_of_shaped (pd_sh d))
/-- a new tuple with a deed -/
def NewD (H : Hp) (Q : VK) (d : Dd) : Prop := ∀ (a : Addr) (H' : Hp), Same H H' → H a = none → H' a = some (.tup d.vs) → Q (.ref a) H'
abbrev Fx : Int := 10 ^ Int.toNat 64 * 10 ^ Int.toNat 26
theorem Fx_eq : Fx = 10 ^ 90 := by decide
theorem take_snoc {α : Type} {l : List α} {i : Nat} {x : α} (h : l[i]? = some x) : l.take (i + 1) = l.take i ++ [x] := by rw [List.take_succ, h] <;> rfl
/-- a deed's tuple that was made here -/
def Da (H : Hp) (a : Addr) (d : Dd) : Prop := H a = some (.tup d.vs) ∧ d.In (10 ^ 80) ∧ d.Ok
theorem Da.arg {K : PySem.W.Frag} {H : Hp} {a : Addr} {d : Dd} (h : Da H a d) : DeedArg K H a d := ⟨.base (.tup h.1), SqT.of h.1, h.2.2⟩
theorem Da.same {H H' : Hp} {a : Addr} {d : Dd} (e : Same H H') (h : Da H a d) : Da H' a d := ⟨e _ _ h.1, h.2⟩
theorem Da.sq {K : PySem.W.Frag} {H : Hp} {a : Addr} {d : Dd} (h : Da H a d) : SqT K H a d.vs := SqT.of h.1
theorem Da.dp {K : PySem.W.Frag} {H : Hp} {a : Addr} {d : Dd} (h : Da H a d) : Dp K H (.ref a) (pd d) := pd_dp h.sq
theorem ne_pd {d : Dd} : (!PyData.eqv (pd d) (pd d)) = false := by rw [pd_refl] <;> rfl
theorem addT {x : Int} {k : Bool} {p : Prop} [Decidable p] (h : k = true ↔ ¬ p) : x * (if k = true then 1 else 0) = if p then 0 else x := by
  by_cases c : p
  · rw [if_pos c, if_neg (fun z => h.mp z c)]; exact Int.mul_zero _
  · rw [if_neg c, if_pos (h.mpr c)]; exact Int.mul_one _
/-! ### shown data: one look -/
structure Sh (d : PyData) (n c : Nat) : Prop where
  s : d.showable = true
  dep : d.depth ≤ n
  c : cst d ≤ c
theorem shAll {α : Type} {f : α → PyData} {n c : Nat} : ∀ {xs : List α}, (∀ x ∈ xs, Sh (f x) n c) → PyData.showableAll (xs.map f) = true ∧ PyData.depthAll (xs.map f) ≤ n ∧ csts (xs.map f) ≤ (c + 4) * xs.length
  | [], _ => ⟨rfl, Nat.zero_le _, Nat.zero_le _⟩
  | x :: r, h => by
    obtain ⟨h1, h2, h3⟩ := shAll (xs := r) fun y hy => h y (List.mem_cons_of_mem _ hy)
    obtain ⟨g1, g2, g3⟩ := h x List.mem_cons_self
    refine ⟨?_, ?_, ?_⟩
    · simp only [List.map_cons, PyData.showableAll, g1, h1, Bool.and_self]
    · simp only [List.map_cons, PyData.depthAll]; omega
    · simp only [List.map_cons, csts, List.length_cons, Nat.mul_add, Nat.mul_one]; omega
theorem Sh.tup {α : Type} {f : α → PyData} {n c m k j : Nat} {xs : List α} (h : ∀ x ∈ xs, Sh (f x) n c) (hm : n + 1 ≤ m) (hl : xs.length ≤ j) (hk : (c + 4) * j + 4 ≤ k) : Sh (.tuple (xs.map f)) m k := by
  obtain ⟨h1, h2, h3⟩ := shAll h
  have h4 := Nat.mul_le_mul_left (c + 4) hl
  refine ⟨h1, ?_, ?_⟩
  · simp only [PyData.depth]; omega
  · show csts _ + 4 ≤ k; omega
theorem Sh.lst {α : Type} {f : α → PyData} {n c m k j : Nat} {xs : List α} (h : ∀ x ∈ xs, Sh (f x) n c) (hm : n + 1 ≤ m) (hl : xs.length ≤ j) (hk : (c + 4) * j + 4 ≤ k) : Sh (.list (xs.map f)) m k := by
  obtain ⟨h1, h2, h3⟩ := shAll h
  have h4 := Nat.mul_le_mul_left (c + 4) hl
  refine ⟨h1, ?_, ?_⟩
  · simp only [PyData.depth]; omega
  · show csts _ + 4 ≤ k; omega
theorem int_sh {i : Int} (h1 : -(10 ^ 100) ≤ i) (h2 : i ≤ 10 ^ 100) : Sh (.int i) 0 1921 := by
  refine ⟨?_, Nat.le_refl _, Nat.le_refl _⟩
  have : i.natAbs.log2 < 1920 := log_lt (by decide) (Nat.lt_of_le_of_lt (m := 10 ^ 100) (by omega) (by decide))
  simpa [PyData.showable] using this
theorem Sh.mono {d : PyData} {n c n' c' : Nat} (h : Sh d n c) (h1 : n ≤ n') (h2 : c ≤ c') : Sh d n' c' := ⟨h.s, Nat.le_trans h.dep h1, Nat.le_trans h.c h2⟩
theorem rep_ {K : PySem.W.Frag} {σ : L2.St} {H : Hp} {x : V} {d : PyData} {n c : Nat} {Q : VK} (hd : Dp K H x d) (s : Sh d n c) (hn : n ≤ 60 := by decide) (hc : c ≤ 10000000 := by decide) (q : Q (.str d.shown) H) :
    tNil σ H (fun xs H2 => (fun vs H1 => rRepr K vs H1 Q) (x :: xs) H2) :=
  ⟨x, d, rfl, hd, s.s, Nat.le_trans s.dep hn, shown_sz s.s (dp_noDict d x hd) (Nat.le_trans s.c hc), q⟩
theorem dps {α : Type} {K : PySem.W.Frag} {H : Hp} {g : α → V} {f : α → PyData} : ∀ {xs : List α}, (∀ x ∈ xs, Dp K H (g x) (f x)) → DpAll K H (xs.map g) (xs.map f)
  | [], _ => .nil
  | x :: r, h => .cons (h x List.mem_cons_self) (dps fun y hy => h y (List.mem_cons_of_mem _ hy))
theorem po_sh {b : Int} {o : Option Int} (h : ∀ l, o = some l → -b ≤ l ∧ l ≤ b) (hb : b ≤ 10 ^ 100) : Sh (po o) 0 1921 := by
  cases o with
  | none => exact ⟨rfl, Nat.le_refl _, by show 5 ≤ 1921; decide⟩
  | some i => have := h i rfl; exact int_sh (by omega) (by omega)
theorem pd_sh1 {b : Int} {d : Dd} (h : d.In b) (hb : b ≤ 10 ^ 100) : Sh (pd d) 1 6000 := by
  have := h.1; have := h.2.1
  refine Sh.tup (f := id) (n := 0) (c := 1921) (j := 3) (xs := [.int d.add, po d.low, po d.high]) ?_ (Nat.le_refl _) (Nat.le_refl _) (by decide)
  intro x hx
  simp only [List.mem_cons, List.mem_nil_iff, or_false] at hx
  rcases hx with rfl | rfl | rfl
  · exact int_sh (by omega) (by omega)
  · exact po_sh h.2.2.1 hb
  · exact po_sh h.2.2.2 hb
/-! ### boards and asks -/
def BoardAt (H : Hp) (b : Addr) (bs : List Int) : Prop := H b = some (.tup (bs.map V.int)) ∧ 1 ≤ bs.length ∧ bs.length ≤ 16
def Wi (c : Int) (bs : List Int) : Prop := ∀ x ∈ bs, -c ≤ x ∧ x ≤ c
theorem BoardAt.same {H H' : Hp} {b : Addr} {bs : List Int} (e : Same H H') (h : BoardAt H b bs) : BoardAt H' b bs := ⟨e _ _ h.1, h.2⟩
structure Ak where
  a : Addr
  hand : Int
  box : Nat
  da : Addr
  d : Dd
def Ak.vs (x : Ak) : List V := [.int x.hand, .int x.box, .ref x.da]
def Ak.at_ (H : Hp) (nb : Nat) (x : Ak) : Prop := H x.a = some (.tup x.vs) ∧ Da H x.da x.d ∧ 0 ≤ x.hand ∧ x.hand < 16 ∧ x.box < nb
def AsksAt (H : Hp) (k : Addr) (as : List Ak) (nb : Nat) : Prop := H k = some (.tup (as.map fun x => .ref x.a)) ∧ as.length ≤ 40 ∧ ∀ x ∈ as, x.at_ H nb
theorem Ak.at_.same {H H' : Hp} {nb : Nat} {x : Ak} (e : Same H H') (h : x.at_ H nb) : x.at_ H' nb := ⟨e _ _ h.1, h.2.1.same e, h.2.2⟩
theorem AsksAt.same {H H' : Hp} {k : Addr} {as : List Ak} {nb : Nat} (e : Same H H') (h : AsksAt H k as nb) : AsksAt H' k as nb := ⟨e _ _ h.1, h.2.1, fun x hx => (h.2.2 x hx).same e⟩
theorem Da.but {p : Addr} {ys : List V} {H H' : Hp} {a : Addr} {d : Dd} (e : But p H H') (hp : H p = some (.lst ys)) (h : Da H a d) : Da H' a d := ⟨e _ _ (ne_of h.1 hp (by intro z; cases z)) h.1, h.2⟩
theorem Ak.at_.but {p : Addr} {ys : List V} {H H' : Hp} {nb : Nat} {x : Ak} (e : But p H H') (hp : H p = some (.lst ys)) (h : x.at_ H nb) : x.at_ H' nb := ⟨e _ _ (ne_of h.1 hp (by intro z; cases z)) h.1, h.2.1.but e hp, h.2.2⟩
def Ak.pd (x : Ak) : PyData := .tuple [.int x.hand, .int x.box, Toy.pd x.d]
theorem Ak.at_.dp {K : PySem.W.Frag} {H : Hp} {nb : Nat} {x : Ak} (h : x.at_ H nb) : Dp K H (.ref x.a) x.pd := .tup (SqT.of h.1) (.cons (.int _) (.cons (.int _) (.cons h.2.1.dp .nil)))
theorem Ak.at_.sh {H : Hp} {nb : Nat} {x : Ak} (h : x.at_ H nb) (hn : nb ≤ 16) : Sh x.pd 2 19000 := by
  refine Sh.tup (f := id) (n := 1) (c := 6000) (j := 3) (xs := [.int x.hand, .int x.box, Toy.pd x.d]) ?_ (Nat.le_refl _) (Nat.le_refl _) (by decide)
  have := h.2.2
  intro y hy
  simp only [List.mem_cons, List.mem_nil_iff, or_false] at hy
  rcases hy with rfl | rfl | rfl
  · exact (int_sh (by omega) (by omega)).mono (by decide) (by decide)
  · exact (int_sh (by omega) (by omega)).mono (by decide) (by decide)
  · exact pd_sh1 h.2.1.2.1 (by decide)
def intsD (bs : List Int) : PyData := .tuple (bs.map PyData.int)
theorem ints_sh1 {bs : List Int} {c : Int} {n : Nat} (h : Wi c bs) (hc : c ≤ 10 ^ 100) (hn : bs.length ≤ n) : Sh (intsD bs) 1 (1925 * n + 4) :=
  Sh.tup (n := 0) (c := 1921) (j := n) (fun x hx => have := h x hx; int_sh (by omega) (by omega)) (Nat.le_refl _) hn (by omega)
theorem BoardAt.dp {K : PySem.W.Frag} {H : Hp} {b : Addr} {bs : List Int} (h : BoardAt H b bs) : Dp K H (.ref b) (intsD bs) := tupI_dp (SqT.of h.1)
def akD (as : List Ak) : PyData := .tuple (as.map Ak.pd)
theorem AsksAt.dp {K : PySem.W.Frag} {H : Hp} {k : Addr} {as : List Ak} {nb : Nat} (h : AsksAt H k as nb) : Dp K H (.ref k) (akD as) := .tup (SqT.of h.1) (dps fun x hx => (h.2.2 x hx).dp)
theorem AsksAt.sh {H : Hp} {k : Addr} {as : List Ak} {nb : Nat} (h : AsksAt H k as nb) (hn : nb ≤ 16) : Sh (akD as) 3 800000 :=
  Sh.tup (n := 2) (c := 19000) (j := 40) (fun x hx => (h.2.2 x hx).sh hn) (Nat.le_refl _) h.2.1 (by decide)
/-! ### asks played -/
def stepP (s : List Int × List Int) (x : Ak) : List Int × List Int := (s.1 ++ [s.2.getD x.box 0], s.2.set x.box (x.d.ap (s.2.getD x.box 0)))
def play (as : List Ak) (bs : List Int) : List Int × List Int := as.foldl stepP ([], bs)
theorem play_snoc {as : List Ak} {bs : List Int} {i : Nat} {x : Ak} (h : as[i]? = some x) : play (as.take (i + 1)) bs = stepP (play (as.take i) bs) x := by
  unfold play; rw [take_snoc h, List.foldl_append] <;> rfl
theorem Wi.set {c : Int} {bs : List Int} {i : Nat} {v : Int} (h : Wi c bs) (h1 : -c ≤ v) (h2 : v ≤ c) : Wi c (bs.set i v) := fun x hx => by
  rcases List.mem_or_eq_of_mem_set hx with h3 | h3
  · exact h x h3
  · subst h3; exact ⟨h1, h2⟩
theorem Wi.mono {c c' : Int} {bs : List Int} (h : Wi c bs) (e : c ≤ c') : Wi c' bs := fun x hx => by have := h x hx; omega
theorem Wi.get {c : Int} {bs : List Int} {i : Nat} (h : Wi c bs) (h0 : 0 ≤ c) : -c ≤ bs.getD i 0 ∧ bs.getD i 0 ≤ c := by
  rw [List.getD_eq_getElem?_getD]
  cases e : bs[i]? with
  | none => show -c ≤ 0 ∧ 0 ≤ c; omega
  | some x => exact h x (List.mem_of_getElem? e)
theorem snoc_ind {α : Type} {p : List α → Prop} (nil : p []) (snoc : ∀ l x, p l → p (l ++ [x])) (l : List α) : p l := by
  have h : ∀ l : List α, p l.reverse := fun l => by
    induction l with
    | nil => exact nil
    | cons x r ih => rw [List.reverse_cons]; exact snoc _ _ ih
  have := h l.reverse
  rwa [List.reverse_reverse] at this
theorem play_in {H : Hp} {nb : Nat} {bs : List Int} {c : Int} (hc : 0 ≤ c) (hb : Wi c bs) : ∀ {as : List Ak}, (∀ x ∈ as, x.at_ H nb) → (play as bs).1.length = as.length ∧ (play as bs).2.length = bs.length ∧ Wi (c + as.length * 10 ^ 80) (play as bs).1 ∧ Wi (c + as.length * 10 ^ 80) (play as bs).2 := by
  intro as
  induction as using snoc_ind with
  | nil => exact fun _ => ⟨rfl, rfl, (fun x hx => (nomatch hx)), hb.mono (by show c ≤ c + ((0 : Nat) : Int) * _; omega)⟩
  | snoc as x ih =>
    intro h
    obtain ⟨i1, i2, i3, i4⟩ := ih fun y hy => h y (List.mem_append_left _ hy)
    have hx := h x (List.mem_append_right _ List.mem_cons_self)
    have e : play (as ++ [x]) bs = stepP (play as bs) x := by unfold play; rw [List.foldl_append] <;> rfl
    have hg := i4.get (i := x.box) (by omega)
    have ha := ap_in (v := (play as bs).2.getD x.box 0) hx.2.1.2.1 hg.1 hg.2 (by omega)
    rw [e]
    have el : (((as ++ [x]).length : Nat) : Int) = as.length + 1 := by simp
    rw [el]
    refine ⟨?_, ?_, ?_, ?_⟩
    · show (_ ++ [_]).length = _; simp [i1]
    · show (List.set _ _ _).length = _; simp [i2]
    · intro y hy
      rcases List.mem_append.mp (show y ∈ _ ++ [_] from hy) with h3 | h3
      · have := i3 y h3; omega
      · have := List.mem_singleton.mp h3; subst this; omega
    · exact Wi.set (i4.mono (by omega)) (by omega) (by omega)
theorem menu8 : ∀ j : Nat, j < 8 → ∃ z : Int, ([.int 2147483629, .int 2147483587, .int 2147483579, .int 2147483563, .int 2147483549, .int 2147483543, .int 2147483497, .int 2147483489] : List V)[j]? = some (.int z) ∧ 0 < z ∧ z ≤ 2147483629
  | 0, _ => ⟨_, rfl, by decide, by decide⟩
  | 1, _ => ⟨_, rfl, by decide, by decide⟩
  | 2, _ => ⟨_, rfl, by decide, by decide⟩
  | 3, _ => ⟨_, rfl, by decide, by decide⟩
  | 4, _ => ⟨_, rfl, by decide, by decide⟩
  | 5, _ => ⟨_, rfl, by decide, by decide⟩
  | 6, _ => ⟨_, rfl, by decide, by decide⟩
  | 7, _ => ⟨_, rfl, by decide, by decide⟩
  | n + 8, h => absurd h (by omega)
theorem at3 {x0 x1 x2 : Int} : ∀ j : Nat, j < 3 → ∃ z : Int, ([.int x0, .int x1, .int x2] : List V)[j]? = some (.int z) ∧ (z = x0 ∨ z = x1 ∨ z = x2)
  | 0, _ => ⟨_, rfl, .inl rfl⟩
  | 1, _ => ⟨_, rfl, .inr (.inl rfl)⟩
  | 2, _ => ⟨_, rfl, .inr (.inr rfl)⟩
  | n + 3, h => absurd h (by omega)
theorem but_upd {p D : Addr} {H H1 : Hp} {o : HO} (n : H D = none) (a : But p H H1) : But p H (upd H1 D o) := fun b u hb e => by rw [upd_ne (ne_of_none e n)]; exact a b u hb e
theorem PotAt.upd {H : Hp} {p D : Addr} {o : HO} (n : p ≠ D) (h : PotAt H p) : PotAt (L2.upd H D o) p := by
  obtain ⟨a, b, h1, h2⟩ := h
  exact ⟨a, b, by rw [upd_ne n]; exact h1, h2⟩
theorem Wi.snoc {c : Int} {bs : List Int} {x : Int} (h : Wi c bs) (h1 : -c ≤ x) (h2 : x ≤ c) : Wi c (bs ++ [x]) := fun y hy => by
  rcases List.mem_append.mp hy with h3 | h3
  · exact h y h3
  · have := List.mem_singleton.mp h3; subst this; exact ⟨h1, h2⟩
theorem play_len {as : List Ak} {bs : List Int} : (play as bs).1.length = as.length ∧ (play as bs).2.length = bs.length := by
  induction as using snoc_ind with
  | nil => exact ⟨rfl, rfl⟩
  | snoc as x ih =>
    have e : play (as ++ [x]) bs = stepP (play as bs) x := by unfold play; rw [List.foldl_append] <;> rfl
    rw [e]
    refine ⟨?_, ?_⟩
    · show (_ ++ [_]).length = _; simp [ih.1]
    · show (List.set _ _ _).length = _; simp [ih.2]
theorem map_getD {us : List Int} {i : Nat} (h : i < us.length) : (us.map V.int)[i]? = some (.int (us.getD i 0)) := by
  rw [List.getElem?_map, List.getD_eq_getElem?_getD, List.getElem?_eq_getElem h] <;> rfl
/-- what is told of asks played -/
def TwoAt (H : Hp) (r : Addr) (s : List Int × List Int) : Prop := ∃ t1 t2, H r = some (.tup [.ref t1, .ref t2]) ∧ H t1 = some (.tup (s.1.map V.int)) ∧ H t2 = some (.tup (s.2.map V.int))
theorem TwoAt.same {H H' : Hp} {r : Addr} {s : List Int × List Int} (e : Same H H') (h : TwoAt H r s) : TwoAt H' r s := by
  obtain ⟨a, b, h1, h2, h3⟩ := h
  exact ⟨a, b, e _ _ h1, e _ _ h2, e _ _ h3⟩
def twoD (s : List Int × List Int) : PyData := .tuple [intsD s.1, intsD s.2]
theorem TwoAt.dp {K : PySem.W.Frag} {H : Hp} {r : Addr} {s : List Int × List Int} (h : TwoAt H r s) : Dp K H (.ref r) (twoD s) := by
  obtain ⟨a, b, h1, h2, h3⟩ := h
  exact .tup (SqT.of h1) (.cons (tupI_dp (SqT.of h2)) (.cons (tupI_dp (SqT.of h3)) .nil))
theorem play_sh {H : Hp} {k : Addr} {as : List Ak} {bs : List Int} {c : Int} (hk : AsksAt H k as bs.length) (hn : bs.length ≤ 16) (hw : Wi c bs) (h0 : 0 ≤ c) (hc : c ≤ 10 ^ 91) : Sh (twoD (play as bs)) 2 160000 := by
  obtain ⟨h1, h2, h3, h4⟩ := play_in h0 hw hk.2.2
  have h40 := hk.2.1
  have hb : c + (as.length : Int) * 10 ^ 80 ≤ 10 ^ 100 := by omega
  refine Sh.tup (f := id) (n := 1) (c := 77004) (j := 2) (xs := [intsD (play as bs).1, intsD (play as bs).2]) ?_ (Nat.le_refl _) (Nat.le_refl _) (by decide)
  intro x hx
  simp only [List.mem_cons, List.mem_nil_iff, or_false] at hx
  rcases hx with rfl | rfl
  · exact ints_sh1 (n := 40) h3 hb (by omega)
  · exact ints_sh1 (n := 40) h4 hb (by omega)
/-! ### trees -/
inductive Tr where
  | leaf (n : Nat)
  | node (l r : Tr)
def Tr.cnt : Tr → Nat
  | .leaf _ => 1
  | .node l r => l.cnt + r.cnt
def Tr.h : Tr → Nat
  | .leaf _ => 1
  | .node l r => max l.h r.h + 1
def Tr.d : Tr → PyData
  | .leaf n => .int n
  | .node l r => .tuple [l.d, r.d]
def Tr.big : Tr → Nat
  | .leaf n => n
  | .node l r => max l.big r.big
def TrAt (H : Hp) : V → Tr → Prop
  | v, .leaf n => v = .int n
  | v, .node l r => ∃ a x y, v = .ref a ∧ H a = some (.tup [x, y]) ∧ TrAt H x l ∧ TrAt H y r
theorem TrAt.same {H H' : Hp} (e : Same H H') : ∀ {t : Tr} {v : V}, TrAt H v t → TrAt H' v t
  | .leaf _, _, h => h
  | .node l r, _, ⟨a, x, y, h1, h2, h3, h4⟩ => ⟨a, x, y, h1, e _ _ h2, TrAt.same e h3, TrAt.same e h4⟩
theorem TrAt.dp {K : PySem.W.Frag} {H : Hp} : ∀ {t : Tr} {v : V}, TrAt H v t → Dp K H v t.d
  | .leaf n, _, h => by
    cases (show _ = V.int n from h)
    exact .int n
  | .node l r, _, ⟨a, x, y, h1, h2, h3, h4⟩ => by
    cases h1
    exact .tup (SqT.of h2) (.cons h3.dp (.cons h4.dp .nil))
theorem Tr.sh : ∀ {t : Tr} {b : Nat}, t.big ≤ b → b ≤ 10 ^ 9 → t.d.showable = true ∧ t.d.depth + 1 ≤ t.h ∧ cst t.d + 12 ≤ 1940 * t.cnt
  | .leaf n, b, h, hb => by
    have h' : n ≤ b := h
    have i := int_sh (i := n) (by omega) (by omega)
    exact ⟨i.s, Nat.le_refl _, by show 1921 + 12 ≤ 1940 * 1; decide⟩
  | .node l r, b, h, hb => by
    have h' : max l.big r.big ≤ b := h
    obtain ⟨a1, a2, a3⟩ := Tr.sh (t := l) (b := b) (by omega) hb
    obtain ⟨b1, b2, b3⟩ := Tr.sh (t := r) (b := b) (by omega) hb
    refine ⟨?_, ?_, ?_⟩
    · simp only [Tr.d, PyData.showable, PyData.showableAll, a1, b1, Bool.and_self]
    · simp only [Tr.d, PyData.depth, PyData.depthAll, Tr.h]; omega
    · show (cst l.d + 4 + (cst r.d + 4 + 0)) + 4 + 12 ≤ 1940 * (l.cnt + r.cnt); omega
theorem Tr.shw {t : Tr} (h1 : t.big ≤ 10 ^ 9) (h2 : t.h ≤ 50) (h3 : t.cnt ≤ 50) : Sh t.d 60 100000 := by
  obtain ⟨a, b, c⟩ := Tr.sh h1 (Nat.le_refl _)
  exact ⟨a, by omega, by omega⟩
theorem Tr.h_pos : ∀ t : Tr, 1 ≤ t.h
  | .leaf _ => Nat.le_refl _
  | .node _ _ => Nat.le_add_left _ _
/-- the halved tree -/
def hv (f m : Nat) : Tr := if m ≤ 1 then .leaf f else .node (hv f ((m + 1) / 2)) (hv (f + (m + 1) / 2) (m - (m + 1) / 2))
termination_by m
decreasing_by all_goals omega
theorem hv_one {f m : Nat} (h : m ≤ 1) : hv f m = .leaf f := by rw [hv, if_pos h]
theorem hv_more {f m : Nat} (h : ¬ m ≤ 1) : hv f m = .node (hv f ((m + 1) / 2)) (hv (f + (m + 1) / 2) (m - (m + 1) / 2)) := by rw [hv, if_neg h]
def IsH : Tr → Nat → Prop
  | .leaf n, f => n = f
  | .node l r, f => (l.cnt = r.cnt ∨ l.cnt = r.cnt + 1) ∧ IsH l f ∧ IsH r (f + l.cnt)
theorem hv_is : ∀ (m f : Nat), 1 ≤ m → IsH (hv f m) f ∧ (hv f m).cnt = m ∧ (hv f m).h ≤ m ∧ (hv f m).big ≤ f + m := by
  intro m
  induction m using Nat.strongRecOn with
  | _ m ih =>
    intro f h
    by_cases c : m ≤ 1
    · rw [hv_one c]
      have : m = 1 := by omega
      subst this
      exact ⟨rfl, rfl, Nat.le_refl _, Nat.le_add_right _ _⟩
    · rw [hv_more c]
      obtain ⟨a1, a2, a3, a4⟩ := ih ((m + 1) / 2) (by omega) f (by omega)
      obtain ⟨b1, b2, b3, b4⟩ := ih (m - (m + 1) / 2) (by omega) (f + (m + 1) / 2) (by omega)
      refine ⟨⟨by omega, a1, by rw [a2]; exact b1⟩, ?_, ?_, ?_⟩
      · show _ + _ = _; omega
      · show max _ _ + 1 ≤ _; omega
      · show max _ _ ≤ _; omega
/-- the chained tree of so many -/
def ch : Nat → Tr
  | 0 => .leaf 0
  | n + 1 => .node (ch n) (.leaf (n + 1))
theorem ch_is : ∀ n, (ch n).cnt = n + 1 ∧ (ch n).h ≤ n + 1 ∧ (ch n).big ≤ n
  | 0 => ⟨rfl, Nat.le_refl _, Nat.le_refl _⟩
  | n + 1 => by
    obtain ⟨a, b, c⟩ := ch_is n
    refine ⟨?_, ?_, ?_⟩
    · show _ + 1 = _; omega
    · show max _ 1 + 1 ≤ _; omega
    · show max _ (n + 1) ≤ _; omega
theorem TrAt.but {p : Addr} {ys : List V} {H H' : Hp} (e : But p H H') (hp : H p = some (.lst ys)) : ∀ {t : Tr} {v : V}, TrAt H v t → TrAt H' v t
  | .leaf _, _, h => h
  | .node l r, _, ⟨a, x, y, h1, h2, h3, h4⟩ => ⟨a, x, y, h1, e _ _ (ne_of h2 hp (by intro z; cases z)) h2, TrAt.but e hp h3, TrAt.but e hp h4⟩
end Toy
/-! ### tuples: t + u and t[a:b] of any kind -/
namespace Toy
open PySem PySem.Spec PyProof.Rows L2
def rCatU : R2 := fun x y H Q => ∃ a b xs ys, x = .ref a ∧ y = .ref b ∧ H a = some (.tup xs) ∧ H b = some (.tup ys) ∧ xs.length + ys.length ≤ sizeLine ∧ ∀ p H', Same H H' → H' p = some (.tup (xs ++ ys)) → Q (.ref p) H'
theorem op_catU {X : Cx} : OpR X (binaryOp .Add) rCatU := by
  intro pins s σ H x y v u Q I rx ry h
  obtain ⟨a, b, xs, ys, rfl, rfl, ha, hb, hz, q⟩ := h
  refine op_catA pins s σ H _ _ v u Q I rx ry ⟨a, b, xs, ys, rfl, rfl, SqT.of ha, SqT.of hb, hz, fun e => ?_, fun _ e => ?_, fun _ _ p hp => q p _ (same_new hp _) upd_same⟩
  · subst e
    exact q b H (fun _ _ z => z) (by rw [hb, List.nil_append])
  · subst e
    exact q a H (fun _ _ z => z) (by rw [ha, List.append_nil])
def rSlU : V → Option Int → Option Int → Hp → VK → Prop := fun x lo hi H Q => ∃ a xs, x = .ref a ∧ H a = some (.tup xs) ∧ ∀ p H', Same H H' → H' p = some (.tup (cutV xs lo hi)) → Q (.ref p) H'
theorem sl_tupU {X : Cx} : SlR X rSlU := by
  intro pins s σ H x v vl vu lo hi sl Q I rx hs pl pu h
  obtain ⟨a, xs, rfl, ha, q⟩ := h
  refine sl_tupA pins s σ H _ v vl vu lo hi sl Q I rx hs pl pu ⟨a, xs, rfl, SqT.of ha, fun e => ?_, fun _ p hp => q p _ (same_new hp _) upd_same⟩
  refine q a H (fun _ _ z => z) ?_
  rw [ha]
  have : cutV xs lo hi = xs := by
    unfold cutV
    rw [e.1, e.2, List.drop_zero, Nat.sub_zero, List.take_length]
  rw [this]
/-! ### things of any kind: numbers, truths, None, texts, tuples, lists, dicts with ints as keys -/
mutual
def wt : PyData → Nat
  | .none => 5
  | .bool _ => 5
  | .int _ => 1921
  | .str x => (reprText x).length + 1
  | .list xs => wts xs + 4
  | .tuple xs => wts xs + 4
  | .dict kvs => wtk kvs + 4
def wts : List PyData → Nat
  | [] => 0
  | x :: xs => wt x + 4 + wts xs
def wtk : List (PyData × PyData) → Nat
  | [] => 0
  | (k, v) :: r => wt k + wt v + 8 + wtk r
end
theorem dicT_len (ts : List Str) : (dictText ts).length ≤ piled ts + 4 := by
  unfold dictText
  rw [strLen_append, strLen_append]
  have e1 : ((("{" : String) : Str)).length = 1 := rfl
  have e3 : ((("}" : String) : Str)).length = 1 := rfl
  by_cases h : ts = []
  · subst h; decide +kernel
  · have := join_length_add ts h; omega
mutual
theorem shown_wt : ∀ d : PyData, d.showable = true → d.shown.length ≤ wt d
  | .none, _ => by show (("None" : String) : Str).length ≤ 5; decide +kernel
  | .bool b, _ => by cases b <;> (show _ ≤ 5; decide +kernel)
  | .int i, h => PyProof.Rows.int_text_len_1921 (of_decide_eq_true (by simpa [PyData.showable] using h))
  | .str x, _ => Nat.le_succ _
  | .list ds, h => by
    have h1 := showns_wt ds (by simpa [PyData.showable] using h)
    have h2 := lstT_len (PyData.shownAll ds)
    show (listText (PyData.shownAll ds)).length ≤ wts ds + 4
    omega
  | .tuple ds, h => by
    have h1 := showns_wt ds (by simpa [PyData.showable] using h)
    have h2 := tupT_len (PyData.shownAll ds)
    show (tupleText (PyData.shownAll ds)).length ≤ wts ds + 4
    omega
  | .dict kvs, h => by
    have h1 := shownk_wt kvs (by simpa [PyData.showable] using h)
    have h2 := dicT_len (PyData.shownKv kvs)
    show (dictText (PyData.shownKv kvs)).length ≤ wtk kvs + 4
    omega
theorem showns_wt : ∀ ds : List PyData, PyData.showableAll ds = true → piled (PyData.shownAll ds) ≤ wts ds
  | [], _ => Nat.le_refl _
  | d :: ds, h => by
    have h1 := shown_wt d (by simp [PyData.showableAll] at h; exact h.1)
    have h2 := showns_wt ds (by simp [PyData.showableAll] at h; exact h.2)
    show piled (d.shown :: PyData.shownAll ds) ≤ _
    rw [piled_cons]
    show _ ≤ wt d + 4 + wts ds
    omega
theorem shownk_wt : ∀ kvs : List (PyData × PyData), PyData.showableKv kvs = true → piled (PyData.shownKv kvs) ≤ wtk kvs
  | [], _ => Nat.le_refl _
  | (k, v) :: r, h => by
    have h0 : (k.showable = true ∧ v.showable = true) ∧ PyData.showableKv r = true := by simpa [PyData.showableKv] using h
    have h1 := shown_wt k h0.1.1
    have h2 := shown_wt v h0.1.2
    have h3 := shownk_wt r h0.2
    show piled ((k.shown ++ ": " ++ v.shown) :: PyData.shownKv r) ≤ _
    rw [piled_cons, strLen_append, strLen_append]
    have e : (((": " : String) : Str)).length = 2 := rfl
    show _ ≤ wt k + wt v + 8 + wtk r
    omega
end
theorem shown_wz {d : PyData} (h : d.showable = true) (c : wt d ≤ 10000000) : d.shown.length ≤ sizeLine := Nat.le_trans (shown_wt d h) (Nat.le_trans c (by decide))
/-- a thing: d stands at v; the list p is no part of it -/
inductive Th (K : PySem.W.Frag) (p : Addr) (H : Hp) : V → PyData → Prop
  | non : Th K p H .non .none
  | bl (b : Bool) : Th K p H (.bl b) (.bool b)
  | int (i : Int) : Th K p H (.int i) (.int i)
  | str (x : Str) : Th K p H (.str x) (.str x)
  | tup {a : Addr} {tr : List (V × PyData)} : H a = some (.tup (tr.map fun t => t.1)) → (∀ t ∈ tr, Th K p H t.1 t.2) → Th K p H (.ref a) (.tuple (tr.map fun t => t.2))
  | lst {a : Addr} {tr : List (V × PyData)} : a ≠ p → a ≠ sysModules → H a = some (.lst (tr.map fun t => t.1)) → (∀ t ∈ tr, Th K p H t.1 t.2) → Th K p H (.ref a) (.list (tr.map fun t => t.2))
  | dct {a : Addr} {tr : List (Int × V × PyData)} : H a = some (.dK (tr.map fun t => (Sum.inl t.1, t.2.1))) → (∀ t ∈ tr, Th K p H t.2.1 t.2.2) → Th K p H (.ref a) (.dict (tr.map fun t => (.int t.1, t.2.2)))
theorem Th.same {K : PySem.W.Frag} {p : Addr} {H H' : Hp} {v : V} {d : PyData} (h : Th K p H v d) (e : Same H H') : Th K p H' v d := by
  induction h with
  | non => exact .non
  | bl b => exact .bl b
  | int i => exact .int i
  | str x => exact .str x
  | tup h1 _ ih => exact .tup (e _ _ h1) ih
  | lst n1 n2 h1 _ ih => exact .lst n1 n2 (e _ _ h1) ih
  | dct h1 _ ih => exact .dct (e _ _ h1) ih
theorem Th.but {K : PySem.W.Frag} {p : Addr} {H H' : Hp} {v : V} {d : PyData} {ys : List V} (h : Th K p H v d) (e : But p H H') (hp : H p = some (.lst ys)) : Th K p H' v d := by
  induction h with
  | non => exact .non
  | bl b => exact .bl b
  | int i => exact .int i
  | str x => exact .str x
  | tup h1 _ ih => exact .tup (e _ _ (ne_of h1 hp (by intro z; cases z)) h1) ih
  | lst n1 n2 h1 _ ih => exact .lst n1 n2 (e _ _ n1 h1) ih
  | dct h1 _ ih => exact .dct (e _ _ (ne_of h1 hp (by intro z; cases z)) h1) ih
/-- the kind of a thing -/
def tyD : PyData → String
  | .none => "NoneType"
  | .bool _ => "bool"
  | .int _ => "int"
  | .str _ => "str"
  | .list _ => "list"
  | .tuple _ => "tuple"
  | .dict _ => "dict"
def isTu : PyData → Bool
  | .tuple _ => true
  | _ => false
def isIn : PyData → Bool
  | .int _ => true
  | .bool _ => true
  | _ => false
def isBl : PyData → Bool
  | .bool _ => true
  | _ => false
def isSt : PyData → Bool
  | .str _ => true
  | _ => false
/-- a whole number -/
def isWh : PyData → Bool
  | .int _ => true
  | _ => false
theorem isWh_eq (d : PyData) : isWh d = (isIn d && !isBl d) := by cases d <;> rfl
theorem Th.ty {K : PySem.W.Frag} {p : Addr} {H : Hp} {v : V} {d : PyData} (h : Th K p H v d) : TyX K H v (.type (tyD d)) := by
  cases h with
  | non => exact .base .non
  | bl b => exact .base (.bl b)
  | int i => exact .base (.int i)
  | str x => exact .base (.str x)
  | tup h1 _ => exact .base (.tup h1)
  | lst _ _ h1 _ => exact .base (.lst h1)
  | dct h1 _ => exact .base (.dK h1)
theorem kit_tu {K : PySem.W.Frag} : ∀ d : PyData, PySem.W.kitOne K (.type (tyD d)) (.type "tuple") = some (isTu d)
  | .none => (kit_ty (by decide +kernel) : PySem.W.kitOne K (.type "NoneType") (.type "tuple") = some false)
  | .bool _ => (kit_ty (by decide +kernel) : PySem.W.kitOne K (.type "bool") (.type "tuple") = some false)
  | .int _ => (kit_ty (by decide +kernel) : PySem.W.kitOne K (.type "int") (.type "tuple") = some false)
  | .str _ => (kit_ty (by decide +kernel) : PySem.W.kitOne K (.type "str") (.type "tuple") = some false)
  | .list _ => (kit_ty (by decide +kernel) : PySem.W.kitOne K (.type "list") (.type "tuple") = some false)
  | .tuple _ => (kit_ty (by decide +kernel) : PySem.W.kitOne K (.type "tuple") (.type "tuple") = some true)
  | .dict _ => (kit_ty (by decide +kernel) : PySem.W.kitOne K (.type "dict") (.type "tuple") = some false)
theorem kit_in {K : PySem.W.Frag} : ∀ d : PyData, PySem.W.kitOne K (.type (tyD d)) (.type "int") = some (isIn d)
  | .none => (kit_ty (by decide +kernel) : PySem.W.kitOne K (.type "NoneType") (.type "int") = some false)
  | .bool _ => (kit_ty (by decide +kernel) : PySem.W.kitOne K (.type "bool") (.type "int") = some true)
  | .int _ => (kit_ty (by decide +kernel) : PySem.W.kitOne K (.type "int") (.type "int") = some true)
  | .str _ => (kit_ty (by decide +kernel) : PySem.W.kitOne K (.type "str") (.type "int") = some false)
  | .list _ => (kit_ty (by decide +kernel) : PySem.W.kitOne K (.type "list") (.type "int") = some false)
  | .tuple _ => (kit_ty (by decide +kernel) : PySem.W.kitOne K (.type "tuple") (.type "int") = some false)
  | .dict _ => (kit_ty (by decide +kernel) : PySem.W.kitOne K (.type "dict") (.type "int") = some false)
theorem kit_bl {K : PySem.W.Frag} : ∀ d : PyData, PySem.W.kitOne K (.type (tyD d)) (.type "bool") = some (isBl d)
  | .none => (kit_ty (by decide +kernel) : PySem.W.kitOne K (.type "NoneType") (.type "bool") = some false)
  | .bool _ => (kit_ty (by decide +kernel) : PySem.W.kitOne K (.type "bool") (.type "bool") = some true)
  | .int _ => (kit_ty (by decide +kernel) : PySem.W.kitOne K (.type "int") (.type "bool") = some false)
  | .str _ => (kit_ty (by decide +kernel) : PySem.W.kitOne K (.type "str") (.type "bool") = some false)
  | .list _ => (kit_ty (by decide +kernel) : PySem.W.kitOne K (.type "list") (.type "bool") = some false)
  | .tuple _ => (kit_ty (by decide +kernel) : PySem.W.kitOne K (.type "tuple") (.type "bool") = some false)
  | .dict _ => (kit_ty (by decide +kernel) : PySem.W.kitOne K (.type "dict") (.type "bool") = some false)
theorem kit_st {K : PySem.W.Frag} : ∀ d : PyData, PySem.W.kitOne K (.type (tyD d)) (.type "str") = some (isSt d)
  | .none => (kit_ty (by decide +kernel) : PySem.W.kitOne K (.type "NoneType") (.type "str") = some false)
  | .bool _ => (kit_ty (by decide +kernel) : PySem.W.kitOne K (.type "bool") (.type "str") = some false)
  | .int _ => (kit_ty (by decide +kernel) : PySem.W.kitOne K (.type "int") (.type "str") = some false)
  | .str _ => (kit_ty (by decide +kernel) : PySem.W.kitOne K (.type "str") (.type "str") = some true)
  | .list _ => (kit_ty (by decide +kernel) : PySem.W.kitOne K (.type "list") (.type "str") = some false)
  | .tuple _ => (kit_ty (by decide +kernel) : PySem.W.kitOne K (.type "tuple") (.type "str") = some false)
  | .dict _ => (kit_ty (by decide +kernel) : PySem.W.kitOne K (.type "dict") (.type "str") = some false)
theorem Th.tup_inv {K : PySem.W.Frag} {p : Addr} {H : Hp} {v : V} {ds : List PyData} (h : Th K p H v (.tuple ds)) : ∃ (a : Addr) (tr : List (V × PyData)), v = .ref a ∧ ds = (tr.map fun t => t.2) ∧ H a = some (.tup (tr.map fun t => t.1)) ∧ ∀ t ∈ tr, Th K p H t.1 t.2 := by
  cases h with
  | @tup a tr h1 h2 => exact ⟨a, tr, rfl, rfl, h1, h2⟩
theorem Th.int_inv {K : PySem.W.Frag} {p : Addr} {H : Hp} {v : V} {i : Int} (h : Th K p H v (.int i)) : v = .int i := by cases h; rfl
theorem isTu_inv {d : PyData} (h : isTu d = true) : ∃ ds, d = .tuple ds := by cases d <;> first | exact ⟨_, rfl⟩ | cases h
theorem isWh_inv {d : PyData} (h : isWh d = true) : ∃ i, d = .int i := by cases d <;> first | exact ⟨_, rfl⟩ | cases h
/-! a thing, shown -/
theorem reads_all {h : Heap} : ∀ {tr : List (V × PyData)} {us : List Value}, Vals (tr.map fun t => t.1) us → (∀ t ∈ tr, ∀ u, RelV t.1 u → ∃ as, Reads h u t.2 as ∧ sysModules ∉ as) → ∃ as, ReadsAll h us (tr.map fun t => t.2) as ∧ sysModules ∉ as
  | [], _, .nil, _ => ⟨_, .nil, List.not_mem_nil⟩
  | t :: tr, _, .cons r rs, ih => by
    obtain ⟨as, h1, h2⟩ := ih t List.mem_cons_self _ r
    obtain ⟨bs, h3, h4⟩ := reads_all rs fun x hx => ih x (List.mem_cons_of_mem _ hx)
    exact ⟨_, .cons h1 h3, fun z => (List.mem_append.mp z).elim h2 h4⟩
theorem reads_dct {P : Program} {w : World} {h : Heap} : ∀ {tr : List (Int × V × PyData)} {vs : List (Key × Value)} {es : List DictEntry}, KV (tr.map fun t => ((Sum.inl t.1 : Key), t.2.1)) vs → Pairs (mixKind P w) es vs → (∀ t ∈ tr, ∀ u, RelV t.2.1 u → ∃ as, Reads h u t.2.2 as ∧ sysModules ∉ as) →
    ∃ as bs, ReadsAll h (es.map fun e => e.key) (tr.map fun t => PyData.int t.1) as ∧ ReadsAll h (es.map fun e => e.val) (tr.map fun t => t.2.2) bs ∧ sysModules ∉ as ∧ sysModules ∉ bs
  | [], _, _, .nil, .nil, _ => ⟨_, _, .nil, .nil, List.not_mem_nil, List.not_mem_nil⟩
  | t :: tr, _, _, .cons k ks, .cons e1 e2 es, ih => by
    obtain ⟨as, h1, h2⟩ := ih t List.mem_cons_self _ k.2
    obtain ⟨cs, bs, h3, h4, h5, h6⟩ := reads_dct ks es fun x hx => ih x (List.mem_cons_of_mem _ hx)
    have e1' := e1
    rw [← k.1] at e1'
    have e3 : keyIs (Sum.inl t.1) _ = true := e1'
    rcases keyIs_shape e3 with ⟨i, tk, ei, ek⟩ | ⟨x, tk, ei, _⟩
    · cases ei
      rw [← e2] at h1
      exact ⟨[] ++ cs, as ++ bs, .cons (by show Reads h _ (.int t.1) []; dsimp only; rw [ek]; exact Reads.int t.1 tk) h3, .cons h1 h4, h5, fun z => (List.mem_append.mp z).elim h2 h6⟩
    · cases ei
theorem Th.reads {X : Cx} {pins : List (Addr × Obj)} {σ : L2.St} {p : Addr} {H : Hp} {s : Shared} (I : Inv X pins σ H s) {v : V} {d : PyData} (h : Th X.K p H v d) : ∀ u, RelV v u → ∃ as, Reads s.heap u d as ∧ sysModules ∉ as := by
  induction h with
  | non => intro u r; cases r; exact ⟨_, .none, List.not_mem_nil⟩
  | bl b => intro u r; cases r; exact ⟨_, .bool b, List.not_mem_nil⟩
  | int i => intro u r; obtain ⟨t, rfl⟩ := r; exact ⟨_, .int i t, List.not_mem_nil⟩
  | str x => intro u r; obtain ⟨t, rfl⟩ := r; exact ⟨_, .str x t, List.not_mem_nil⟩
  | @tup a tr h1 _ ih =>
    intro u r
    cases r
    obtain ⟨its, rv, ⟨o, ho, hc, n, hd⟩, _⟩ := I.tuple (SqT.of h1)
    obtain ⟨as, h2, h3⟩ := reads_all rv ih
    exact ⟨_, .tuple ho hc hd h2, h3⟩
  | @lst a tr n1 n2 h1 _ ih =>
    intro u r
    cases r
    obtain ⟨its, rv, ⟨o, n, ho, hc, _, hd⟩, _⟩ := I.list (SqL.of h1)
    obtain ⟨as, h2, h3⟩ := reads_all rv ih
    exact ⟨_, .list ho hc hd h2, fun z => (List.mem_cons.mp z).elim (fun q => n2 q.symm) h3⟩
  | @dct a tr h1 _ ih =>
    intro u r
    cases r
    obtain ⟨_, hs, vs, kv, o, es, ep, ho, hx, hd, _, pr, _⟩ := dk_of I.hok h1
    obtain ⟨as, bs, h2, h3, h4, h5⟩ := reads_dct kv pr ih
    refine ⟨a :: as ++ bs, .dict (kvs := tr.map fun t => (PyData.int t.1, t.2.2)) ho hx.1 hd (by rw [List.map_map]; exact h2) (by rw [List.map_map]; exact h3), fun z => ?_⟩
    rcases List.mem_append.mp z with z | z
    · rcases List.mem_cons.mp z with z | z
      · rw [← z] at hs; cases hs
      · exact h4 z
    · exact h5 z
def rReprO (K : PySem.W.Frag) : List V → Hp → VK → Prop := fun xs H Q => ∃ (x : V) (d : PyData) (p : Addr), xs = [x] ∧ Th K p H x d ∧ d.showable = true ∧ d.depth ≤ 60 ∧ d.shown.length ≤ sizeLine ∧ Q (.str d.shown) H
theorem reprO {X : Cx} {k : Nat} {K : PySem.W.Frag} (hr : RoomG k X.A) (eK : X.K = K := by rfl) : CallR X (.builtin "repr") (rReprO K) := by
  cases eK
  intro pins s σ H xs us Q I r h
  obtain ⟨x, d, p, rfl, hd, hs, hdep, hz, q⟩ := h
  obtain ⟨u, rfl, rx⟩ := vals1 r
  obtain ⟨as, rd, na⟩ := Th.reads I hd u rx
  have hu := hr.units
  cases hd with
  | non => cases rx; exact PySem.P.repr_of_none ⟨.str _, H, I.tok _, ⟨_, rfl⟩, q⟩
  | bl b => cases rx; exact PySem.P.repr_of_bool ⟨.str _, H, I.tok _, ⟨_, rfl⟩, q⟩
  | int i => obtain ⟨t, rfl⟩ := rx; exact PySem.P.repr_of_int (of_decide_eq_true (by simpa [PyData.showable] using hs)) ⟨.str _, H, I.tok _, ⟨_, rfl⟩, q⟩
  | str z => obtain ⟨t, rfl⟩ := rx; exact PySem.P.repr_of_str ⟨.str _, H, I.tok _, ⟨_, rfl⟩, q⟩ hz
  | tup _ _ =>
    cases rx
    exact repr_of_reads' rd hs (fun _ => na) hr.idle (by omega) (fun _ _ z => z) (fun h' u tk hk => ⟨.str _, H, I.kept hk, ⟨_, rfl⟩, q⟩) hz
  | lst _ _ _ _ =>
    cases rx
    exact repr_of_reads' rd hs (fun _ => na) hr.idle (by omega) (fun _ _ z => z) (fun h' u tk hk => ⟨.str _, H, I.kept hk, ⟨_, rfl⟩, q⟩) hz
  | dct _ _ =>
    cases rx
    exact repr_of_reads' rd hs (fun _ => na) hr.idle (by omega) (fun _ _ z => z) (fun h' u tk hk => ⟨.str _, H, I.kept hk, ⟨_, rfl⟩, q⟩) hz
/-! lists that may be parts of things -/
def tLstS (t : TA) : TE := fun σ H Q => t σ H fun xs H1 => xs.length ≤ sizeLine ∧ ∀ p, H1 p = none → p ≠ sysModules → Q (.ref p) (upd H1 p (.lst xs))
theorem pe_lstS {X : Cx} {es : List Expr} {t : TA} {pos : Pos} (h : PA X es t) : PE X (.List es pos) (tLstS t) := by
  refine ⟨fun pins s σ H Q I hq => ?_⟩
  refine wpAny_List_spliced (thn (h.run pos pins s σ H _ I hq) fun us s1 ⟨xs, H1, I1, r, z, q⟩ => ⟨by rw [← r.length]; exact z, ?_⟩)
  have hn : H1 s1.heap.objs.size = none := I1.hok.fresh (Nat.le_refl _)
  exact ⟨.ref s1.heap.objs.size, upd H1 s1.heap.objs.size (.lst xs), I1.laid (t' := s1.toks) (fun b u e => Heap.get?_push_of_some _ e) (Nat.le_refl _) ⟨z, us, 0, r, Heap.get?_push_size _ rfl⟩, rfl, q _ hn (Nat.ne_of_gt I1.big)⟩
def rLstOfS (K : PySem.W.Frag) : List V → Hp → VK → Prop := fun xs H Q => ∃ p ys, xs = [.ref p] ∧ (SqL K H p ys ∨ SqT K H p ys) ∧ ∀ l, H l = none → l ≠ sysModules → Q (.ref l) (upd H l (.lst ys))
theorem lstOfS {X : Cx} {K : PySem.W.Frag} (eK : X.K = K := by rfl) : CallR X (.type "list") (rLstOfS K) := by
  cases eK
  intro pins s σ H xs us Q I r h
  obtain ⟨p, ys, rfl, hq, q⟩ := h
  obtain ⟨u, rfl, rx⟩ := vals1 r
  cases rx
  have fin : ∀ (its : List Value), Vals ys its → ys.length ≤ sizeLine → ∀ (h' : Heap) (c' : Nat), (∀ b o', s.heap.get? b = some o' → h'.get? b = some o') →
      h'.get? s.heap.objs.size = some { cls := .type "list", dict := none, data := .seq its.toArray c', slots := #[] } → EP X pins σ Q (.ref s.heap.objs.size) { s with heap := h' } := fun its r' hz h' c' kp e =>
    ⟨.ref s.heap.objs.size, _, I.laid (t' := s.toks) kp (Nat.le_refl _) (show ObjOk X.prog X.w _ h' _ (.lst ys) from ⟨hz, its, c', r', e⟩), rfl, q _ (I.hok.fresh (Nat.le_refl _)) (Nat.ne_of_gt I.big)⟩
  rcases hq with hq | hq
  · obtain ⟨its, r', pl, hz⟩ := I.list hq
    have hlen := r'.length
    obtain ⟨o, ho, hc, n, hd⟩ := pl.isList
    exact call_list_seq p (.inl rfl) ho hc hd (fun h' c' kp e => fin its r' hz h' c' kp e) (by simp only [List.size_toArray] <;> omega)
  · obtain ⟨its, r', pl, hz⟩ := I.tuple hq
    have hlen := r'.length
    obtain ⟨o, ho, hc, n, hd⟩ := pl
    exact call_list_seq p (.inr rfl) ho hc hd (fun h' c' kp e => fin its r' hz h' c' kp e) (by simp only [List.size_toArray] <;> omega)
/-! ### lists of things beside [] (wants odd0) -/
def rNeNil (K : PySem.W.Frag) : R2 := fun x y H Q => ∃ a b ys, x = .ref a ∧ y = .ref b ∧ SqL K H a ys ∧ SqL K H b [] ∧ Q (.bl (!ys.isEmpty)) H
def rEqNil (K : PySem.W.Frag) : R2 := fun x y H Q => ∃ a b ys, x = .ref a ∧ y = .ref b ∧ SqL K H a ys ∧ SqL K H b [] ∧ Q (.bl ys.isEmpty) H
theorem op_neNil {X : Cx} {K : PySem.W.Frag} (hu : X.A.units + 64 < cLine) (eK : X.K = K := by rfl) : OpR X (compareOp .NotEq) (rNeNil K) := by
  cases eK
  intro pins s σ H x y v u Q I rx ry h
  obtain ⟨a, b, ys, rfl, rfl, ha, hb, q⟩ := h
  cases rx
  cases ry
  obtain ⟨its, rv, hl, _⟩ := I.list ha
  obtain ⟨its2, rv2, hl2, _⟩ := I.list hb
  cases rv2
  cases rv with
  | nil => exact SeqAt.RcNeAt.lists (e := fun _ => true) hl.isList hl2.isList rfl (by omega) (fun j h1 h2 => absurd h1 (Nat.not_lt_zero _)) _ _ _ _ ⟨.bl _, H, I, rfl, q⟩
  | cons r rs => exact SeqAt.RcNeAt.lists_lengths hl.isList hl2.isList (by simp) (by omega) _ _ _ _ ⟨.bl _, H, I, rfl, q⟩
theorem op_eqNil {X : Cx} {K : PySem.W.Frag} (hu : X.A.units + 64 < cLine) (eK : X.K = K := by rfl) : OpR X (compareOp .Eq) (rEqNil K) := by
  cases eK
  intro pins s σ H x y v u Q I rx ry h
  obtain ⟨a, b, ys, rfl, rfl, ha, hb, q⟩ := h
  cases rx
  cases ry
  obtain ⟨its, rv, hl, _⟩ := I.list ha
  obtain ⟨its2, rv2, hl2, _⟩ := I.list hb
  cases rv2
  cases rv with
  | nil => exact SeqAt.RcAt.lists (e := fun _ => true) hl.isList hl2.isList rfl (by omega) (fun j h1 h2 => absurd h1 (Nat.not_lt_zero _)) _ _ _ _ ⟨.bl _, H, I, rfl, q⟩
  | cons r rs => exact SeqAt.RcAt.lists_lengths hl.isList hl2.isList (by simp) (by omega) _ _ _ _ ⟨.bl _, H, I, rfl, q⟩
/-! sizes of things -/
mutual
/-- the greatest number in a thing, by its amount -/
def ib : PyData → Nat
  | .int i => i.natAbs
  | .list xs => ibs xs
  | .tuple xs => ibs xs
  | .dict kvs => ibk kvs
  | _ => 0
def ibs : List PyData → Nat
  | [] => 0
  | x :: xs => max (ib x) (ibs xs)
def ibk : List (PyData × PyData) → Nat
  | [] => 0
  | (k, v) :: r => max (max (ib k) (ib v)) (ibk r)
end
mutual
theorem ib_sh : ∀ d : PyData, ib d ≤ 10 ^ 100 → d.showable = true
  | .none, _ => rfl
  | .bool _, _ => rfl
  | .str _, _ => rfl
  | .int i, h => by
    have h : i.natAbs ≤ 10 ^ 100 := h
    have : i.natAbs.log2 < 1920 := log_lt (by decide) (Nat.lt_of_le_of_lt h (by decide))
    simpa [PyData.showable] using this
  | .list xs, h => ibs_sh xs h
  | .tuple xs, h => ibs_sh xs h
  | .dict kvs, h => ibk_sh kvs h
theorem ibs_sh : ∀ xs : List PyData, ibs xs ≤ 10 ^ 100 → PyData.showableAll xs = true
  | [], _ => rfl
  | x :: xs, h => by
    have h : max (ib x) (ibs xs) ≤ 10 ^ 100 := h
    have h1 := ib_sh x (Nat.le_trans (Nat.le_max_left _ _) h)
    have h2 := ibs_sh xs (Nat.le_trans (Nat.le_max_right _ _) h)
    simp only [PyData.showableAll, h1, h2, Bool.and_self]
theorem ibk_sh : ∀ kvs : List (PyData × PyData), ibk kvs ≤ 10 ^ 100 → PyData.showableKv kvs = true
  | [], _ => rfl
  | (k, v) :: r, h => by
    have h : max (max (ib k) (ib v)) (ibk r) ≤ 10 ^ 100 := h
    have h1 := ib_sh k (Nat.le_trans (Nat.le_trans (Nat.le_max_left _ _) (Nat.le_max_left _ _)) h)
    have h2 := ib_sh v (Nat.le_trans (Nat.le_trans (Nat.le_max_right _ _) (Nat.le_max_left _ _)) h)
    have h3 := ibk_sh r (Nat.le_trans (Nat.le_max_right _ _) h)
    simp only [PyData.showableKv, h1, h2, h3, Bool.and_self]
end
/-- depth, length when shown, greatest number -/
structure Wg (d : PyData) (n c b : Nat) : Prop where
  dep : d.depth ≤ n
  len : wt d ≤ c
  big : ib d ≤ b
theorem Wg.mono {d : PyData} {n c b n' c' b' : Nat} (w : Wg d n c b) (h1 : n ≤ n') (h2 : c ≤ c') (h3 : b ≤ b') : Wg d n' c' b' := ⟨Nat.le_trans w.dep h1, Nat.le_trans w.len h2, Nat.le_trans w.big h3⟩
structure Wgs (ds : List PyData) (n c b : Nat) : Prop where
  dep : PyData.depthAll ds ≤ n
  len : wts ds ≤ c
  big : ibs ds ≤ b
theorem Wgs.nil {n c b : Nat} : Wgs [] n c b := ⟨Nat.zero_le _, Nat.zero_le _, Nat.zero_le _⟩
theorem Wgs.cons {d : PyData} {ds : List PyData} {n c c' b : Nat} (h : Wg d n c b) (t : Wgs ds n c' b) : Wgs (d :: ds) n (c + 4 + c') b :=
  ⟨by show max d.depth (PyData.depthAll ds) ≤ n; have := h.dep; have := t.dep; omega, by show wt d + 4 + wts ds ≤ _; have := h.len; have := t.len; omega, by show max (ib d) (ibs ds) ≤ b; have := h.big; have := t.big; omega⟩
theorem wts_app : ∀ (xs ys : List PyData), wts (xs ++ ys) = wts xs + wts ys
  | [], ys => by show wts ys = 0 + wts ys; omega
  | x :: xs, ys => by show wt x + 4 + wts (xs ++ ys) = wt x + 4 + wts xs + wts ys; rw [wts_app xs ys]; omega
theorem ibs_app : ∀ (xs ys : List PyData), ibs (xs ++ ys) = max (ibs xs) (ibs ys)
  | [], ys => by show ibs ys = max 0 (ibs ys); omega
  | x :: xs, ys => by show max (ib x) (ibs (xs ++ ys)) = max (max (ib x) (ibs xs)) (ibs ys); rw [ibs_app xs ys]; omega
theorem dps_app : ∀ (xs ys : List PyData), PyData.depthAll (xs ++ ys) = max (PyData.depthAll xs) (PyData.depthAll ys)
  | [], ys => by show PyData.depthAll ys = max 0 _; omega
  | x :: xs, ys => by show max x.depth (PyData.depthAll (xs ++ ys)) = max (max x.depth (PyData.depthAll xs)) _; rw [dps_app xs ys]; omega
theorem Wgs.app {xs ys : List PyData} {n c c' b : Nat} (h : Wgs xs n c b) (t : Wgs ys n c' b) : Wgs (xs ++ ys) n (c + c') b :=
  ⟨by rw [dps_app]; have := h.dep; have := t.dep; omega, by rw [wts_app]; have := h.len; have := t.len; omega, by rw [ibs_app]; have := h.big; have := t.big; omega⟩
theorem Wgs.sub {xs ys : List PyData} {n c b : Nat} (h : Wgs (xs ++ ys) n c b) : Wgs xs n c b ∧ Wgs ys n c b := by
  have h1 := h.dep
  have h2 := h.len
  have h3 := h.big
  rw [dps_app] at h1
  rw [wts_app] at h2
  rw [ibs_app] at h3
  exact ⟨⟨by omega, by omega, by omega⟩, ⟨by omega, by omega, by omega⟩⟩
theorem Wgs.mono {ds : List PyData} {n c b n' c' b' : Nat} (w : Wgs ds n c b) (h1 : n ≤ n') (h2 : c ≤ c') (h3 : b ≤ b') : Wgs ds n' c' b' := ⟨Nat.le_trans w.dep h1, Nat.le_trans w.len h2, Nat.le_trans w.big h3⟩
theorem Wg.tup {ds : List PyData} {n c b : Nat} (h : Wgs ds n c b) : Wg (.tuple ds) (n + 1) (c + 4) b := ⟨by show PyData.depthAll ds + 1 ≤ n + 1; have := h.dep; omega, by show wts ds + 4 ≤ c + 4; have := h.len; omega, h.big⟩
theorem Wg.lst {ds : List PyData} {n c b : Nat} (h : Wgs ds n c b) : Wg (.list ds) (n + 1) (c + 4) b := ⟨by show PyData.depthAll ds + 1 ≤ n + 1; have := h.dep; omega, by show wts ds + 4 ≤ c + 4; have := h.len; omega, h.big⟩
theorem Wg.untup {ds : List PyData} {n c b : Nat} (h : Wg (.tuple ds) n c b) : Wgs ds (n - 1) (c - 4) b := ⟨by have : PyData.depthAll ds + 1 ≤ n := h.dep; omega, by have : wts ds + 4 ≤ c := h.len; omega, h.big⟩
theorem Wgs.mem {ds : List PyData} {n c b : Nat} (h : Wgs ds n c b) {d : PyData} (hd : d ∈ ds) : Wg d n c b := by
  obtain ⟨xs, ys, rfl⟩ := List.append_of_mem hd
  have h2 := (h.sub).2
  refine ⟨?_, ?_, ?_⟩
  · have : max d.depth (PyData.depthAll ys) ≤ n := h2.dep
    omega
  · have : wt d + 4 + wts ys ≤ c := h2.len
    omega
  · have : max (ib d) (ibs ys) ≤ b := h2.big
    omega
theorem Wg.shw {d : PyData} {n c b : Nat} (w : Wg d n c b) (hb : b ≤ 10 ^ 100 := by decide) : d.showable = true := ib_sh d (Nat.le_trans w.big hb)
theorem Wg.sz {d : PyData} {n c b : Nat} (w : Wg d n c b) (hb : b ≤ 10 ^ 100 := by decide) (hc : c ≤ 10000000 := by decide) : d.shown.length ≤ sizeLine := shown_wz (w.shw hb) (Nat.le_trans w.len hc)
theorem ofS_cps (s : String) : ∀ c ∈ (Str.ofString s).cps.toList, c < 16 ^ 8 := by
  intro c hc
  rw [Str.ofString_eq_toList] at hc
  have hc : c ∈ s.toList.map Char.toNat := by simpa using hc
  obtain ⟨ch, _, rfl⟩ := List.mem_map.mp hc
  exact Nat.lt_of_lt_of_le ch.val.toBitVec.isLt (by decide : 2 ^ 32 ≤ 16 ^ 8)
theorem strI_wt (i : Int) (h : i.natAbs ≤ 10 ^ 100) : wt (.str (toString i)) ≤ 20000 := by
  have h0 : i.natAbs.log2 < 1920 := log_lt (by decide) (Nat.lt_of_le_of_lt h (by decide))
  have h1 := PyProof.Rows.int_text_len_1921 h0
  have h2 := StrLaws.reprText_len (toString i : String) (ofS_cps _)
  show (reprText (toString i : String)).length + 1 ≤ 20000
  omega
/-! ### list * int, what comes is none of the modules' table -/
def rRepS : R2 := fun x y H Q => ∃ l k xs, x = .ref l ∧ y = .int k ∧ H l = some (.lst xs) ∧ 0 ≤ k ∧ k < 2 ^ 63 ∧ xs.length * k.toNat ≤ sizeLine ∧
  ∀ p, H p = none → p ≠ sysModules → Q (.ref p) (upd H p (.lst (List.replicate k.toNat xs).flatten))
theorem op_repS {X : Cx} : OpR X (binaryOp .Mult) rRepS := by
  rintro pins s σ H x y v u Q J ra rb ⟨a, m, ys, rfl, rfl, at_, m0, m1, mz, go⟩
  obtain ⟨tk, rfl⟩ := rb
  cases ra
  obtain ⟨z, us, cap, rel, eqL, get⟩ := J.lstM at_
  have zz : us.toArray.size * m.toNat ≤ sizeLine := by
    rw [List.size_toArray, ← eqL]
    exact mz
  have c1 : ¬ us.toArray.size * m.toNat > (2 ^ 63 - 1) / 8 := Nat.not_lt.mpr (Nat.le_trans zz (by decide))
  have c2 : ¬ (!Builtin.List.listFitsIndex m) = true := fun w => by
    rw [fitsIndex_both (Int.le_trans (by decide) m0) m1] at w
    cases w
  have c3 : ¬ Builtin.List.listTooLong (us.toArray.size * m.toNat) = true := fun w => by
    rw [notLongL zz] at w
    cases w
  have flat : List.foldl (fun q1 q2 => q1 ++ q2) #[] (List.replicate (if us.toArray.isEmpty = true then 0 else m.toNat) us.toArray) = (List.replicate m.toNat us).flatten.toArray := by
    have base : ∀ n : Nat, List.foldl (fun q1 q2 => q1 ++ q2) #[] (List.replicate n us.toArray) = (List.replicate n us).flatten.toArray := fun n => by
      simpa using foldl_rep us n []
    rw [base]
    match us with
    | [] => simp
    | _ :: _ => rw [if_neg (by simp)]
  have inner := AutoListH.list___mul___list_int_3 a us.toArray cap m tk c2 c1 c3
  have met := int___rmul___int_list m tk a us.toArray cap
  refine wpAny_binaryOp_repeat_ref (T := "list") (U := "int") (by decide) ⟨_, get, rfl⟩
    (fun s2 => typeIs_int s2 m tk) noFill_list_mul
    F.fills_int_mul F.slot_int_rmul repeat_list
    F.slot_int_index.lookup ?_
  refine call_meets F.slot_int_rmul (typeIs_int s m tk)
    F.entry_int_rmul (F.args_int_rmul_2 _ _) met
    ⟨get, rfl, ⟨_, get, rfl⟩, ?_⟩
  refine call_meets F.slot_list_mul ⟨_, get, rfl⟩
    F.entry_list_mul (F.args_list_mul_2 _ _) inner
    ⟨get, ?_⟩
  rw [flat]
  have long : (List.replicate m.toNat ys).flatten.length ≤ sizeLine := by
    rw [PyProof.Rows.lm_len_rep_flat, Nat.mul_comm]
    exact mz
  exact ⟨.ref _, _, J.lnew (t' := s.toks) (rel.rep m.toNat) long, rfl, go _ J.fresh (Nat.ne_of_gt J.big)⟩
/-! ### trees of things: plain law (wants odd1) -/
mutual
/-- the leaves from left to right; None where a tuple is none of two -/
def lv : PyData → List PyData
  | .tuple ds => (match lvs ds with | [a, b] => a ++ b | _ => [.none])
  | .none => [.none]
  | .bool b => [.bool b]
  | .int i => [.int i]
  | .str s => [.str s]
  | .list xs => [.list xs]
  | .dict k => [.dict k]
def lvs : List PyData → List (List PyData)
  | [] => []
  | x :: r => lv x :: lvs r
end
theorem lvs_len : ∀ ds : List PyData, (lvs ds).length = ds.length
  | [] => rfl
  | _ :: r => congrArg (· + 1) (lvs_len r)
theorem lv_two (x y : PyData) : lv (.tuple [x, y]) = lv x ++ lv y := rfl
theorem lv_not {ds : List PyData} (h : ds.length ≠ 2) : lv (.tuple ds) = [.none] := by
  show (match lvs ds with | [a, b] => a ++ b | _ => [.none]) = [.none]
  have := lvs_len ds
  match e : lvs ds with
  | [] => rfl
  | [_] => rfl
  | [a, b] => rw [e] at this; exact absurd this.symm h
  | _ :: _ :: _ :: _ => rfl
theorem lv_leaf {d : PyData} (h : isTu d = false) : lv d = [d] := by cases d <;> first | rfl | cases h
mutual
def nsz : PyData → Nat
  | .tuple ds => 1 + nszs ds
  | _ => 1
def nszs : List PyData → Nat
  | [] => 0
  | x :: r => nsz x + nszs r
end
mutual
theorem nsz_wt : ∀ d : PyData, nsz d ≤ wt d
  | .none => by show 1 ≤ 5; decide
  | .bool _ => by show 1 ≤ 5; decide
  | .int _ => by show 1 ≤ 1921; decide
  | .str x => Nat.le_add_left 1 _
  | .list xs => by show 1 ≤ wts xs + 4; omega
  | .dict k => by show 1 ≤ wtk k + 4; omega
  | .tuple ds => by
    have := nszs_wt ds
    show 1 + nszs ds ≤ wts ds + 4
    omega
theorem nszs_wt : ∀ ds : List PyData, nszs ds ≤ wts ds
  | [] => Nat.zero_le _
  | x :: r => by
    have h1 := nsz_wt x
    have h2 := nszs_wt r
    show nsz x + nszs r ≤ wt x + 4 + wts r
    omega
end
theorem nsz_pos : ∀ d : PyData, 1 ≤ nsz d
  | .none => Nat.le_refl _
  | .bool _ => Nat.le_refl _
  | .int _ => Nat.le_refl _
  | .str _ => Nat.le_refl _
  | .list _ => Nat.le_refl _
  | .dict _ => Nat.le_refl _
  | .tuple _ => Nat.le_add_right _ _
theorem nszs_len : ∀ ds : List PyData, ds.length ≤ nszs ds
  | [] => Nat.le_refl _
  | x :: r => by
    have h1 := nsz_pos x
    have h2 := nszs_len r
    show r.length + 1 ≤ nsz x + nszs r
    omega
mutual
theorem lv_nsz : ∀ d : PyData, (lv d).length ≤ nsz d
  | .none => Nat.le_refl _
  | .bool _ => Nat.le_refl _
  | .int _ => Nat.le_refl _
  | .str _ => Nat.le_refl _
  | .list _ => Nat.le_refl _
  | .dict _ => Nat.le_refl _
  | .tuple ds => by
    by_cases h : ds.length = 2
    · match ds, h with
      | [x, y], _ =>
        rw [lv_two, List.length_append]
        have h1 := lv_nsz x
        have h2 := lv_nsz y
        show _ ≤ 1 + (nsz x + (nsz y + 0))
        omega
    · rw [lv_not h]
      exact Nat.le_add_right _ _
end
def wv : PyData → Int
  | .int i => i
  | _ => -1
def isT (d : PyData) (m : Nat) : Bool := (lv d).all isWh && decide ((lv d).map wv = (List.range m).map fun n : Nat => (n : Int))
def ris (c : Nat) : List PyData := (List.range c).map fun n : Nat => PyData.int (n : Int)
theorem ris_wh (c : Nat) : (ris c).all isWh = true := by
  unfold ris
  rw [List.all_eq_true]
  intro x hx
  obtain ⟨n, _, rfl⟩ := List.mem_map.mp hx
  rfl
theorem ris_wv (c : Nat) : (ris c).map wv = (List.range c).map fun n : Nat => (n : Int) := by unfold ris; rw [List.map_map] <;> rfl
theorem isT_end {d : PyData} {c m : Nat} (h : lv d = ris c) : isT d m = decide (c = m) := by
  unfold isT
  rw [h, ris_wh, ris_wv, Bool.true_and]
  by_cases e : c = m
  · subst e
    rw [decide_eq_true rfl, decide_eq_true rfl]
  · rw [decide_eq_false e, decide_eq_false]
    intro z
    have := congrArg List.length z
    rw [List.length_map, List.length_map, List.length_range, List.length_range] at this
    exact e this
theorem isT_no {d e : PyData} {r : List PyData} {c m : Nat} (h : lv d = ris c ++ e :: r) (he : isWh e = false ∨ wv e ≠ (c : Int)) : isT d m = false := by
  unfold isT
  rw [h]
  rcases he with he | he
  · rw [List.all_append, List.all_cons, he, Bool.false_and, Bool.and_false, Bool.false_and]
  · rw [decide_eq_false, Bool.and_false]
    intro z
    have h1 : ((ris c ++ e :: r).map wv)[c]? = some (wv e) := by
      have lc : (ris c).length = c := by unfold ris; rw [List.length_map, List.length_range]
      rw [List.getElem?_map, List.getElem?_append_right (by omega), lc, Nat.sub_self] <;> rfl
    rw [z, List.getElem?_map] at h1
    by_cases cm : c < m
    · rw [List.getElem?_range cm] at h1
      exact he (Option.some.inj h1).symm
    · rw [List.getElem?_eq_none (by rw [List.length_range]; omega)] at h1
      cases h1
theorem ris_succ (c : Nat) : ris (c + 1) = ris c ++ [.int (c : Nat)] := by unfold ris; rw [List.range_succ, List.map_append] <;> rfl
def szV (ts : List (V × PyData)) : Nat := nszs (ts.map fun t => t.2)
/-! ### trees of numbers as things (wants st2t, odd1, st21d) -/
def IsRow : Tr → Nat → Prop
  | .leaf n, f => n = f
  | .node l r, f => IsRow l f ∧ IsRow r (f + l.cnt)
theorem Tr.cnt_pos : ∀ t : Tr, 1 ≤ t.cnt
  | .leaf _ => Nat.le_refl _
  | .node l r => Nat.le_trans l.cnt_pos (Nat.le_add_right _ _)
theorem Tr.h_cnt : ∀ t : Tr, t.h ≤ t.cnt
  | .leaf _ => Nat.le_refl _
  | .node l r => by
    have := l.h_cnt; have := r.h_cnt; have := l.cnt_pos; have := r.cnt_pos
    show max l.h r.h + 1 ≤ l.cnt + r.cnt
    omega
theorem IsRow.big : ∀ {t : Tr} {f : Nat}, IsRow t f → t.big ≤ f + t.cnt
  | .leaf n, f, h => by cases (show n = f from h); exact Nat.le_add_right _ _
  | .node l r, f, ⟨h1, h2⟩ => by
    have := h1.big; have := h2.big
    show max l.big r.big ≤ f + (l.cnt + r.cnt)
    omega
theorem lv_row : ∀ {t : Tr} {f : Nat}, IsRow t f → lv t.d = (List.range' f t.cnt).map fun n : Nat => PyData.int (n : Int)
  | .leaf n, f, h => by cases (show n = f from h); rfl
  | .node l r, f, ⟨h1, h2⟩ => by
    show lv (.tuple [l.d, r.d]) = (List.range' f (l.cnt + r.cnt)).map _
    rw [lv_two, lv_row h1, lv_row h2, ← List.map_append, List.range'_append_1]
theorem lv_row0 {t : Tr} (h : IsRow t 0) : lv t.d = ris t.cnt := by
  rw [lv_row h]
  unfold ris
  rw [List.range_eq_range']
theorem TrAt.th {K : PySem.W.Frag} {p : Addr} {H : Hp} : ∀ {t : Tr} {v : V}, TrAt H v t → Th K p H v t.d
  | .leaf n, _, h => by
    cases (show _ = V.int n from h)
    exact .int n
  | .node l r, _, ⟨a, x, y, h1, h2, h3, h4⟩ => by
    cases h1
    refine Th.tup (tr := [(x, l.d), (y, r.d)]) h2 fun t ht => ?_
    simp only [List.mem_cons, List.not_mem_nil, or_false] at ht
    rcases ht with rfl | rfl
    · exact h3.th
    · exact h4.th
theorem Tr.wg : ∀ {t : Tr} {b : Nat}, t.big ≤ b → Wg t.d t.h (1940 * t.cnt - 12) b ∧ t.d.depth + 1 ≤ t.h
  | .leaf n, b, h => ⟨⟨Nat.zero_le _, by show 1921 ≤ 1940 * 1 - 12; decide, h⟩, Nat.le_refl _⟩
  | .node l r, b, h => by
    have h' : max l.big r.big ≤ b := h
    obtain ⟨w1, h1⟩ := Tr.wg (t := l) (b := b) (by omega)
    obtain ⟨w2, h2⟩ := Tr.wg (t := r) (b := b) (by omega)
    have a1 := w1.len
    have a2 := w2.len
    have b1 := w1.big
    have b2 := w2.big
    have c1 := l.cnt_pos
    have c2 := r.cnt_pos
    refine ⟨⟨?_, ?_, ?_⟩, ?_⟩
    · show max l.d.depth (max r.d.depth 0) + 1 ≤ max l.h r.h + 1
      omega
    · show (wt l.d + 4 + (wt r.d + 4 + 0)) + 4 ≤ 1940 * (l.cnt + r.cnt) - 12
      omega
    · show max (ib l.d) (max (ib r.d) 0) ≤ b
      omega
    · show max l.d.depth (max r.d.depth 0) + 1 + 1 ≤ max l.h r.h + 1
      omega
theorem cut_toU {xs : List V} (n : Nat) : cutV xs none (some (n : Int)) = xs.take n := by
  unfold cutV
  rw [HT.sIx_nat, HT.sIx_none, List.drop_zero, Nat.sub_zero]
  by_cases c : n ≤ xs.length
  · rw [Nat.min_eq_left c]
  · rw [Nat.min_eq_right (by omega), List.take_length, List.take_of_length_le (by omega)]
theorem cut_fromU {xs : List V} (n : Nat) : cutV xs (some (n : Int)) none = xs.drop n := by
  unfold cutV
  rw [HT.sIx_nat, HT.sIx_none]
  by_cases h : n ≤ xs.length
  · rw [Nat.min_eq_left h, List.take_of_length_le (by rw [List.length_drop] <;> exact Nat.le_refl _)]
  · rw [Nat.min_eq_right (by omega), Nat.sub_self, List.take_zero, List.drop_of_length_le (by omega)]
theorem cut_midU {xs : List V} (n m : Nat) (h : n ≤ xs.length) : cutV xs (some (n : Int)) (some (m : Int)) = (xs.drop n).take (m - n) := by
  unfold cutV
  rw [HT.sIx_nat, HT.sIx_nat, Nat.min_eq_left h]
  by_cases c : m ≤ xs.length
  · rw [Nat.min_eq_left c]
  · rw [Nat.min_eq_right (by omega), List.take_of_length_le (by rw [List.length_drop] <;> exact Nat.le_refl _), List.take_of_length_le (by rw [List.length_drop]; omega)]
theorem Wgs.ex {xs : List PyData} {n c b : Nat} (h : Wgs xs n c b) : Wgs xs n (wts xs) b := ⟨h.dep, Nat.le_refl _, h.big⟩
theorem Wg.ex {d : PyData} {n c b : Nat} (h : Wg d n c b) : Wg d n (wt d) b := ⟨h.dep, Nat.le_refl _, h.big⟩
theorem wts_len : ∀ xs : List PyData, xs.length ≤ wts xs
  | [] => Nat.le_refl _
  | x :: r => by
    have := wts_len r
    show r.length + 1 ≤ wt x + 4 + wts r
    omega
/-! ### deeds, boards, asks as things: plain law (wants odd1) -/
def isNo : PyData → Bool
  | .none => true
  | _ => false
theorem isNo_inv {d : PyData} (h : isNo d = true) : d = .none := by cases d <;> first | rfl | cases h
theorem Th.no_dec {K : PySem.W.Frag} {p : Addr} {H : Hp} {v : V} {d : PyData} (h : Th K p H v d) : decide (v = V.non) = isNo d := by
  cases h <;> rfl
def isEnd (d : PyData) : Bool := isNo d || isWh d
def isN (n : Nat) : PyData → Bool
  | .tuple ds => decide (ds.length = n)
  | _ => false
theorem isN_tu {n : Nat} {d : PyData} (h : isN n d = true) : ∃ ds, d = .tuple ds ∧ ds.length = n := by
  cases d with
  | tuple ds => exact ⟨ds, rfl, of_decide_eq_true h⟩
  | _ => cases h
theorem isN_no {n : Nat} {d : PyData} (h : isTu d = false) : isN n d = false := by cases d <;> first | rfl | cases h
/-- ends in order -/
def okE : PyData → PyData → PyData → Bool
  | .int a, .int l, .int h => decide (l < h) || (decide (l = h) && decide (a = 0))
  | _, _, _ => true
def isDd : PyData → Bool
  | .tuple [a, l, h] => isWh a && (isEnd l && (isEnd h && okE a l h))
  | _ => false
theorem isDd_no {d : PyData} (h : isN 3 d = false) : isDd d = false := by
  cases d with
  | tuple ds =>
    match ds, h with
    | [], _ => rfl
    | [_], _ => rfl
    | [_, _], _ => rfl
    | [_, _, _], h => cases h
    | _ :: _ :: _ :: _ :: _, _ => rfl
  | _ => rfl
def isBd : PyData → Bool
  | .tuple ds => decide (1 ≤ ds.length) && (decide (ds.length ≤ 16) && ds.all isWh)
  | _ => false
theorem isBd_no {d : PyData} (h : isTu d = false) : isBd d = false := by cases d <;> first | rfl | cases h
theorem isBd_tu {d : PyData} (h : isBd d = true) : ∃ ds, d = .tuple ds ∧ 1 ≤ ds.length ∧ ds.length ≤ 16 ∧ ds.all isWh = true := by
  cases d with
  | tuple ds =>
    have h : (decide (1 ≤ ds.length) && (decide (ds.length ≤ 16) && ds.all isWh)) = true := h
    rw [Bool.and_eq_true, Bool.and_eq_true, decide_eq_true_iff, decide_eq_true_iff] at h
    exact ⟨ds, rfl, h.1, h.2.1, h.2.2⟩
  | _ => cases h
def wnD : PyData → Int
  | .int i => i
  | _ => -1
def isAk (nb : Nat) : PyData → Bool
  | .tuple [h, b, e] => isWh h && (isWh b && ((decide (0 ≤ wnD h) && decide (wnD h < 16)) && ((decide (0 ≤ wnD b) && decide (wnD b < (nb : Int))) && isDd e)))
  | _ => false
theorem isAk_no {nb : Nat} {d : PyData} (h : isN 3 d = false) : isAk nb d = false := by
  cases d with
  | tuple ds =>
    match ds, h with
    | [], _ => rfl
    | [_], _ => rfl
    | [_, _], _ => rfl
    | [_, _, _], h => cases h
    | _ :: _ :: _ :: _ :: _, _ => rfl
  | _ => rfl
def isAs (nb : Nat) : PyData → Bool
  | .tuple ds => ds.all (isAk nb)
  | _ => false
theorem isAs_no {nb : Nat} {d : PyData} (h : isTu d = false) : isAs nb d = false := by cases d <;> first | rfl | cases h
theorem len_map1 {tr : List (V × PyData)} : (tr.map fun t => t.1).length = tr.length := List.length_map _
theorem len_map2 {tr : List (V × PyData)} : (tr.map fun t => t.2).length = tr.length := List.length_map _
theorem take_all {tr : List (V × PyData)} (f : PyData → Bool) : ((tr.take (tr.map fun t => t.1).length).map fun t => f t.2).all id = (tr.map fun t => t.2).all f := by
  rw [len_map1, List.take_length, List.all_map, List.all_map] <;> rfl
theorem take_snocB {tr : List (V × PyData)} {i : Nat} {t : V × PyData} (f : PyData → Bool) (h : tr[i]? = some t) : (((tr.take i).map fun t => f t.2).map V.bl) ++ [V.bl (f t.2)] = ((tr.take (i + 1)).map fun t => f t.2).map V.bl := by
  rw [List.take_succ, h, List.map_append, List.map_append] <;> rfl
theorem dec_ne' {n m : Nat} (h : n ≠ m) : (!decide (V.int (n : Int) = V.int (m : Int))) = true := by rw [decide_eq_false fun z => h (by injection z with z; omega)] <;> rfl
def tlen : PyData → Nat
  | .tuple ds => ds.length
  | _ => 0
mutual
/-- tuples of plain things -/
def lf : PyData → Bool
  | .tuple ds => lfs ds
  | .list _ => false
  | .dict _ => false
  | .none => true
  | .bool _ => true
  | .int _ => true
  | .str _ => false
def lfs : List PyData → Bool
  | [] => true
  | d :: r => lf d && lfs r
end
mutual
def byT : PyData → PyData
  | .tuple ds => .tuple (byTs ds)
  | .int i => if 0 ≤ i ∧ i < 2 then .bool (decide (i = 1)) else .int i
  | .list ds => .list ds
  | .dict k => .dict k
  | .none => .none
  | .bool b => .bool b
  | .str s => .str s
def byTs : List PyData → List PyData
  | [] => []
  | d :: r => byT d :: byTs r
end
theorem byTs_map : ∀ ds, byTs ds = ds.map byT
  | [] => rfl
  | d :: r => by show byT d :: byTs r = byT d :: r.map byT; rw [byTs_map r]
theorem lfs_mem : ∀ {ds : List PyData}, lfs ds = true → ∀ d ∈ ds, lf d = true
  | x :: r, h, d, hd => by
    have h : (lf x && lfs r) = true := h
    rw [Bool.and_eq_true] at h
    rcases List.mem_cons.mp hd with rfl | hd
    · exact h.1
    · exact lfs_mem h.2 d hd
theorem lfs_of : ∀ {ds : List PyData}, (∀ d ∈ ds, lf d = true) → lfs ds = true
  | [], _ => rfl
  | x :: r, h => by
    show (lf x && lfs r) = true
    rw [h x List.mem_cons_self, lfs_of fun d hd => h d (List.mem_cons_of_mem _ hd)] <;> rfl
mutual
theorem byT_lf : ∀ d, lf d = true → lf (byT d) = true
  | .tuple ds, h => byTs_lf ds h
  | .int i, _ => by
    show lf (if 0 ≤ i ∧ i < 2 then .bool (decide (i = 1)) else .int i) = true
    split <;> rfl
  | .none, _ => rfl
  | .bool _, _ => rfl
theorem byTs_lf : ∀ ds, lfs ds = true → lfs (byTs ds) = true
  | [], _ => rfl
  | d :: r, h => by
    have h : (lf d && lfs r) = true := h
    rw [Bool.and_eq_true] at h
    show (lf (byT d) && lfs (byTs r)) = true
    rw [byT_lf d h.1, byTs_lf r h.2] <;> rfl
end
theorem Th.sw {K : PySem.W.Frag} {p q : Addr} {H : Hp} {v : V} {d : PyData} (h : Th K p H v d) : lf d = true → Th K q H v d := by
  induction h with
  | non => exact fun _ => .non
  | bl b => exact fun _ => .bl b
  | int i => exact fun _ => .int i
  | str x => exact fun e => by cases e
  | tup h1 _ ih => exact fun e => .tup h1 fun t ht => ih t ht (lfs_mem e _ (List.mem_map_of_mem (f := fun t : V × PyData => t.2) ht))
  | lst _ _ _ _ _ => exact fun e => by cases e
  | dct _ _ _ => exact fun e => by cases e
theorem Th.butL {K : PySem.W.Frag} {p D : Addr} {H H' : Hp} {v : V} {d : PyData} {ys : List V} (h : Th K p H v d) (e : lf d = true) (b : But D H H') (hD : H D = some (.lst ys)) : Th K p H' v d := ((h.sw (q := D) e).but b hD).sw e
theorem Th.lfdp {K : PySem.W.Frag} {p : Addr} {H : Hp} {v : V} {d : PyData} (h : Th K p H v d) (e : lf d = true) (t : isTu d = false) : Dp K H v d ∧ SeqAt.shaped d = true := by
  cases h with
  | non => exact ⟨.non, rfl⟩
  | bl b => exact ⟨.bl b, rfl⟩
  | int i => exact ⟨.int i, rfl⟩
  | str x => cases e
  | tup _ _ => cases t
  | lst _ _ _ _ => cases e
  | dct _ _ => cases e
theorem dep_mem : ∀ {ds : List PyData} {d : PyData}, d ∈ ds → d.depth ≤ PyData.depthAll ds ∧ nsz d ≤ nszs ds
  | x :: r, d, h => by
    rcases List.mem_cons.mp h with rfl | h
    · exact ⟨Nat.le_max_left _ _, Nat.le_add_right _ _⟩
    · obtain ⟨h1, h2⟩ := dep_mem h
      exact ⟨Nat.le_trans h1 (Nat.le_max_right _ _), Nat.le_trans h2 (Nat.le_add_left _ _)⟩
mutual
theorem byT_nsz : ∀ d, nsz (byT d) = nsz d
  | .tuple ds => congrArg (1 + ·) (byTs_nsz ds)
  | .int i => by
    show nsz (if 0 ≤ i ∧ i < 2 then .bool (decide (i = 1)) else .int i) = 1
    split <;> rfl
  | .none => rfl
  | .bool _ => rfl
  | .str _ => rfl
  | .list _ => rfl
  | .dict _ => rfl
theorem byTs_nsz : ∀ ds, nszs (byTs ds) = nszs ds
  | [] => rfl
  | d :: r => by
    show nsz (byT d) + nszs (byTs r) = nsz d + nszs r
    rw [byT_nsz d, byTs_nsz r]
end
/-! ### boards and asks as things (wants st2d, st22d, st22r) -/
theorem ints_th {K : PySem.W.Frag} {p a : Addr} {H : Hp} {bs : List Int} (h : H a = some (.tup (bs.map V.int))) : Th K p H (.ref a) (intsD bs) := by
  have := Th.tup (K := K) (p := p) (tr := bs.map fun i => (V.int i, PyData.int i)) (by rw [List.map_map]; exact h) fun t ht => by
    obtain ⟨i, _, rfl⟩ := List.mem_map.mp ht
    exact .int i
  rw [List.map_map] at this
  exact this
theorem end_th {K : PySem.W.Frag} {p : Addr} {H : Hp} (o : Option Int) : Th K p H (oV o) (po o) := by
  cases o with
  | none => exact .non
  | some i => exact .int i
theorem dd_th {K : PySem.W.Frag} {p a : Addr} {H : Hp} {d : Dd} (h : H a = some (.tup d.vs)) : Th K p H (.ref a) (pd d) := by
  refine Th.tup (tr := [(.int d.add, .int d.add), (oV d.low, po d.low), (oV d.high, po d.high)]) h fun t ht => ?_
  simp only [List.mem_cons, List.not_mem_nil, or_false] at ht
  rcases ht with rfl | rfl | rfl
  · exact .int _
  · exact end_th _
  · exact end_th _
theorem Ak.at_.th {K : PySem.W.Frag} {p : Addr} {H : Hp} {nb : Nat} {x : Ak} (h : x.at_ H nb) : Th K p H (.ref x.a) x.pd := by
  refine Th.tup (tr := [(.int x.hand, .int x.hand), (.int x.box, .int x.box), (.ref x.da, Toy.pd x.d)]) h.1 fun t ht => ?_
  simp only [List.mem_cons, List.not_mem_nil, or_false] at ht
  rcases ht with rfl | rfl | rfl
  · exact .int _
  · exact .int _
  · exact dd_th h.2.1.1
theorem AsksAt.th {K : PySem.W.Frag} {p k : Addr} {H : Hp} {as : List Ak} {nb : Nat} (h : AsksAt H k as nb) : Th K p H (.ref k) (akD as) := by
  have := Th.tup (K := K) (p := p) (tr := as.map fun x => (V.ref x.a, x.pd)) (by rw [List.map_map]; exact h.1) fun t ht => by
    obtain ⟨x, hx, rfl⟩ := List.mem_map.mp ht
    exact (h.2.2 x hx).th
  rw [List.map_map] at this
  exact this
theorem isBd_ints {bs : List Int} (h1 : 1 ≤ bs.length) (h2 : bs.length ≤ 16) : isBd (intsD bs) = true := by
  show (decide (1 ≤ (bs.map PyData.int).length) && (decide ((bs.map PyData.int).length ≤ 16) && (bs.map PyData.int).all isWh)) = true
  rw [List.length_map, decide_eq_true h1, decide_eq_true h2, Bool.true_and, Bool.true_and, List.all_eq_true]
  intro x hx
  obtain ⟨i, _, rfl⟩ := List.mem_map.mp hx
  rfl
theorem isEnd_po (o : Option Int) : isEnd (po o) = true := by cases o <;> rfl
theorem isDd_pd {d : Dd} (h : d.Ok) : isDd (pd d) = true := by
  show (true && (isEnd (po d.low) && (isEnd (po d.high) && okE (.int d.add) (po d.low) (po d.high)))) = true
  rw [isEnd_po, isEnd_po]
  obtain ⟨add, low, high⟩ := d
  cases low with
  | none => rfl
  | some l =>
    cases high with
    | none => rfl
    | some u =>
      show (decide (l < u) || (decide (l = u) && decide (add = 0))) = true
      rcases h l u rfl rfl with h | ⟨h1, h2⟩
      · rw [decide_eq_true h, Bool.true_or]
      · rw [decide_eq_true h1, decide_eq_true h2, Bool.or_eq_true]
        exact .inr rfl
theorem isAk_pd {H : Hp} {nb : Nat} {x : Ak} (h : x.at_ H nb) : isAk nb x.pd = true := by
  show (true && (true && ((decide (0 ≤ x.hand) && decide (x.hand < 16)) && ((decide (0 ≤ (x.box : Int)) && decide ((x.box : Int) < (nb : Int))) && isDd (pd x.d))))) = true
  obtain ⟨_, h2, h3, h4, h5⟩ := h
  rw [isDd_pd h2.2.2, decide_eq_true h3, decide_eq_true h4, decide_eq_true (show (0 : Int) ≤ (x.box : Int) by omega), decide_eq_true (show (x.box : Int) < (nb : Int) by omega)] <;> rfl
theorem isAs_ak {H : Hp} {k : Addr} {as : List Ak} {nb : Nat} (h : AsksAt H k as nb) : isAs nb (akD as) = true := by
  show (as.map Ak.pd).all (isAk nb) = true
  rw [List.all_eq_true]
  intro x hx
  obtain ⟨y, hy, rfl⟩ := List.mem_map.mp hx
  exact isAk_pd (h.2.2 y hy)
theorem lf_ints {bs : List Int} : lf (intsD bs) = true := lfs_of fun d hd => by
  obtain ⟨i, _, rfl⟩ := List.mem_map.mp hd
  rfl
theorem lf_po (o : Option Int) : lf (po o) = true := by cases o <;> rfl
theorem lf_pd {d : Dd} : lf (pd d) = true := by
  show (true && (lf (po d.low) && (lf (po d.high) && true))) = true
  rw [lf_po, lf_po] <;> rfl
theorem lf_akp {x : Ak} : lf x.pd = true := by
  show (true && (true && (lf (pd x.d) && true))) = true
  rw [lf_pd] <;> rfl
theorem lf_ak {as : List Ak} : lf (akD as) = true := lfs_of fun d hd => by
  obtain ⟨x, _, rfl⟩ := List.mem_map.mp hd
  exact lf_akp
/-- lengths, depths, numbers -/
theorem Wgs.all {ds : List PyData} {n c b m : Nat} (h : ∀ d ∈ ds, Wg d n c b) (hl : ds.length ≤ m) : Wgs ds n ((c + 4) * m) b := by
  have : Wgs ds n ((c + 4) * ds.length) b := by
    clear hl
    induction ds with
    | nil => exact Wgs.nil
    | cons d r ih =>
      refine (Wgs.cons (h d List.mem_cons_self) (ih fun x hx => h x (List.mem_cons_of_mem _ hx))).mono (Nat.le_refl _) ?_ (Nat.le_refl _)
      rw [List.length_cons, Nat.mul_add, Nat.mul_one]
      omega
  exact this.mono (Nat.le_refl _) (Nat.mul_le_mul_left _ hl) (Nat.le_refl _)
theorem int_wg {i : Int} {b : Nat} (h : i.natAbs ≤ b) : Wg (.int i) 0 1921 b := ⟨Nat.le_refl _, Nat.le_refl _, h⟩
theorem ints_wg {bs : List Int} {b m : Nat} (h : ∀ x ∈ bs, x.natAbs ≤ b) (hl : bs.length ≤ m) : Wg (intsD bs) 1 ((1921 + 4) * m + 4) b := by
  refine Wg.tup (Wgs.all (n := 0) (c := 1921) (fun d hd => ?_) (by rw [List.length_map]; exact hl))
  obtain ⟨i, hi, rfl⟩ := List.mem_map.mp hd
  exact int_wg (h i hi)
theorem po_wg {o : Option Int} {b : Nat} (h : ∀ l, o = some l → l.natAbs ≤ b) : Wg (po o) 0 1921 b := by
  cases o with
  | none => exact ⟨Nat.le_refl _, by show 5 ≤ 1921; decide, Nat.zero_le _⟩
  | some i => exact int_wg (h i rfl)
theorem pd_wg {d : Dd} {b : Nat} (h : d.In (b : Int)) : Wg (pd d) 1 5779 b := by
  have h0 := h.1
  have h1 := h.2.1
  refine Wg.tup (n := 0) (c := 5775) (Wgs.all (n := 0) (c := 1921) (m := 3) (ds := [.int d.add, po d.low, po d.high]) (fun x hx => ?_) (Nat.le_refl _))
  simp only [List.mem_cons, List.not_mem_nil, or_false] at hx
  rcases hx with rfl | rfl | rfl
  · exact int_wg (by omega)
  · exact po_wg fun l hl => by have := h.2.2.1 l hl; omega
  · exact po_wg fun l hl => by have := h.2.2.2 l hl; omega
theorem ak_wg {H : Hp} {nb : Nat} {x : Ak} (h : x.at_ H nb) (hn : nb ≤ 16) : Wg x.pd 2 9649 (10 ^ 80) := by
  obtain ⟨_, h2, h3, h4, h5⟩ := h
  refine (Wg.tup (n := 1) (Wgs.cons (c := 1921) (n := 1) ((int_wg (b := 10 ^ 80) (i := x.hand) (by omega)).mono (Nat.zero_le _) (Nat.le_refl _) (Nat.le_refl _)) (Wgs.cons (c := 1921) ((int_wg (b := 10 ^ 80) (i := (x.box : Int)) (by omega)).mono (Nat.zero_le _) (Nat.le_refl _) (Nat.le_refl _)) (Wgs.cons (pd_wg (b := 10 ^ 80) h2.2.1) (Wgs.nil (c := 0)))))).mono (Nat.le_refl _) (by decide) (Nat.le_refl _)
theorem asks_wg {H : Hp} {k : Addr} {as : List Ak} {nb : Nat} (h : AsksAt H k as nb) (hn : nb ≤ 16) : Wg (akD as) 3 ((9649 + 4) * 40 + 4) (10 ^ 80) := by
  refine Wg.tup (Wgs.all (n := 2) (c := 9649) (fun d hd => ?_) (by rw [List.length_map]; exact h.2.1))
  obtain ⟨x, hx, rfl⟩ := List.mem_map.mp hd
  exact ak_wg (h.2.2 x hx) hn
theorem ints_dn : ∀ bs : List Int, PyData.depthAll (bs.map PyData.int) = 0 ∧ nszs (bs.map PyData.int) = bs.length
  | [] => ⟨rfl, rfl⟩
  | i :: r => by
    obtain ⟨h1, h2⟩ := ints_dn r
    refine ⟨?_, ?_⟩
    · show max 0 (PyData.depthAll (r.map PyData.int)) = 0
      omega
    · show 1 + nszs (r.map PyData.int) = r.length + 1
      omega
theorem isBd_t {e : Int} {r : List Int} (h0 : 0 ≤ e) (h1 : e < 2) : isBd (byT (intsD (e :: r))) = false := by
  have e1 : byT (intsD (e :: r)) = .tuple (byT (.int e) :: byTs (r.map PyData.int)) := rfl
  have e2 : byT (.int e) = .bool (decide (e = 1)) := if_pos ⟨h0, h1⟩
  rw [e1, e2]
  simp only [isBd, List.all_cons, isWh, Bool.false_and, Bool.and_false]
theorem isAs_t {h0 : Int} {nb : Nat} {b d : PyData} {r : List PyData} (z0 : 0 ≤ h0) (z1 : h0 < 2) : isAs nb (byT (.tuple (.tuple [.int h0, b, d] :: r))) = false := by
  have e1 : byT (.tuple (.tuple [.int h0, b, d] :: r)) = .tuple (.tuple [byT (.int h0), byT b, byT d] :: byTs r) := rfl
  have e2 : byT (.int h0) = .bool (decide (h0 = 1)) := if_pos ⟨z0, z1⟩
  rw [e1, e2]
  simp only [isAs, isAk, List.all_cons, isWh, Bool.false_and]
def toldV : List V := [.bl true, .bl false, .bl true, .bl false, .str "board"]
def toldD : List PyData := [.bool true, .bool false, .bool true, .bool false, .str "board"]
theorem told_th {K : PySem.W.Frag} {p T : Addr} {H : Hp} (n1 : T ≠ p) (n2 : T ≠ sysModules) (h : H T = some (.lst (toldV ++ toldV))) : Th K p H (.ref T) (.list (toldD ++ toldD)) := by
  refine Th.lst (tr := [(.bl true, .bool true), (.bl false, .bool false), (.bl true, .bool true), (.bl false, .bool false), (.str "board", .str "board"), (.bl true, .bool true), (.bl false, .bool false), (.bl true, .bool true), (.bl false, .bool false), (.str "board", .str "board")]) n1 n2 h fun t ht => ?_
  simp only [List.mem_cons, List.not_mem_nil, or_false] at ht
  rcases ht with rfl | rfl | rfl | rfl | rfl | rfl | rfl | rfl | rfl | rfl <;> first | exact .bl _ | exact .str _
theorem told_sh : (PyData.list (toldD ++ toldD)).showable = true ∧ (PyData.list (toldD ++ toldD)).depth ≤ 60 ∧ (PyData.list (toldD ++ toldD)).shown.length ≤ sizeLine := ⟨rfl, by decide, shown_wz rfl (by decide +kernel)⟩
section
variable {P : Program} {w : World} {K : PySem.W.Frag} {mg : Str → Option Value} {base : Heap} (B : Bl K mg)
include B
/-! SPLIT -/
local macro_rules | `(tactic| walk_at "own") => `(tactic| fail)
local macro_rules | `(tactic| walk_at "sm") => `(tactic| first
  | with_reducible assumption
  | exact fun _ _ z => z
  | (apply Toy.same_bk; (with_reducible assumption); walk_at "sm")
  | solve_by_elim only [Toy.same_bk, *])
local macro_rules | `(tactic| walk_at "hp") => `(tactic| ((with_reducible refine (?_ : _ = some _)); first
  | with_reducible assumption
  | exact L2.upd_same
  | (apply Toy.hp_new; assumption; walk_at "hp")
  | (apply Toy.hp_at; (with_reducible assumption); walk_at "sm")))
local macro_rules | `(tactic| walk_at "sql") => `(tactic| first
  | with_reducible assumption
  | (apply L2.SqL.of; walk_at "hp")
  | (apply Toy.sql_at; (with_reducible assumption); walk_at "sm"))
local macro_rules | `(tactic| walk_at "sqt") => `(tactic| first
  | with_reducible assumption
  | (apply L2.SqT.of; walk_at "hp")
  | (apply Toy.sqt_at; (with_reducible assumption); walk_at "sm"))
local macro_rules | `(tactic| walk_at "ar") => `(tactic| first
  | with_reducible refine (?_ : (_ : Int) < _)
  | with_reducible refine (?_ : (_ : Int) ≤ _)
  | with_reducible refine (?_ : (_ : Nat) < _)
  | with_reducible refine (?_ : (_ : Nat) ≤ _)
  | with_reducible refine (?_ : (_ : Int) = _)
  | with_reducible refine (?_ : (_ : Nat) = _)
  | with_reducible refine (?_ : ¬ _)
  | with_reducible refine (?_ : _ ∧ _))
local macro_rules | `(tactic| walk_at "om") => `(tactic| (walk_at "ar"; omega))
local macro_rules | `(tactic| walk_at "num") => `(tactic| first
  | (walk_at "ar"; first
    | omega
    | (simp only [List.length_map, List.length_append, List.length_cons, List.length_nil, List.length_replicate, List.length_take, List.length_drop, List.length_range, List.length_set, List.length_reverse] <;> omega)
    | decide
    | (split <;> split <;> omega)
    | (split <;> omega))
  | decide)
local macro_rules | `(tactic| walk_at "side") => `(tactic| first
  | with_reducible rfl
  | walk_at "om"
  | with_reducible assumption
  | exact Toy.sz
  | (apply L2.SqL.of; walk_at "hp")
  | (apply L2.SqT.of; walk_at "hp")
  | (with_reducible apply Or.inl; walk_at "sql")
  | (with_reducible apply Or.inr; walk_at "sqt")
  | (with_reducible apply Exists.intro; walk_at "side")
  | walk_at "hp"
  | exact Eq.refl _
  | (apply Toy.lk1000; walk_at "num")
  | (apply Toy.lt1000; walk_at "num")
  | walk_at "num"
  | (apply Toy.lst_dp; apply L2.SqL.of; walk_at "hp")
  | (apply Toy.tupI_dp; apply L2.SqT.of; walk_at "hp")
  | exact Toy.ints_sh _
  | exact Toy.tupI_sh _
  | (apply L2.RgOk.of_le <;> walk_at "num")
  | (apply L2.atI_nat; assumption)
  | exact L2.Dp.lst (L2.SqL.of (by walk_at "hp")) L2.DpAll.nil
  | exact L2.Dp.tup (L2.SqT.of (by walk_at "hp")) L2.DpAll.nil
  | (apply Toy.ixn; walk_at "num")
  | exact Toy.tyL (by walk_at "hp")
  | walk_at "sql"
  | walk_at "sqt"
  | exact L2.ClsV.ty _
  | (apply L2.TyX.base; first | exact L2.TyOf.int _ | exact L2.TyOf.bl _ | exact L2.TyOf.non | exact L2.TyOf.str _ | (apply L2.TyOf.tup; walk_at "hp") | (apply L2.TyOf.lst; walk_at "hp"))
  | exact L2.kit_ty (r := true) (by decide +kernel)
  | exact L2.kit_ty (r := false) (by decide +kernel)
  | walk_at "own"
  | assumption
  | (walk_at "ar"; solve_by_elim only [Toy.hp_same, Toy.hp_new, L2.upd_same, *]))
local macro_rules | `(tactic| walk_at "go") => `(tactic| first
  | (apply And.intro; (focus (walk_at "side")); try walk_at "go")
  | (apply Exists.intro; rotate_left; (fail_if_success (with_reducible refine (?_ : Nat → _ → _))); (fail_if_success (with_reducible refine (?_ : L2.St → _ → _))); rotate_right; try walk_at "go")
  | (apply Or.inl; apply And.intro; (focus (walk_at "sql")); try walk_at "go")
  | (apply Or.inr; apply And.intro; (focus (walk_at "sqt")); try walk_at "go"))
/-! ENDM -/
/-- the stepper stops here -/
structure Kept (p : Prop) : Prop where
  ex : p
omit B in
theorem none_back {H H' : Hp} {a : Addr} (S : Same H H') (h : H' a = none) : H a = none := by
  cases e : H a with
  | none => rfl
  | some o =>
    rw [S _ _ e] at h
    cases h
omit B in
theorem But.fr {p E : Addr} {H H1 : Hp} {o : HO} (b : But p H H1) (hE : H E = none) : But p H (L2.upd H1 E o) := fun x u n h => by rw [upd_ne (ne_of_none h hE)]; exact b x u n h
omit B in
theorem but_fr {p E : Addr} {H H1 H2 : Hp} (b : But p H H1) (hE : H E = none) (c : But E H1 H2) : But p H H2 := fun x u n h => c _ _ (ne_of_none h hE) (b x u n h)
omit B in
theorem pot_keep {p : Addr} {H H' : Hp} (b : But p H H') (hp : PotAt H p) : ∀ t xs, H t = some (.tup xs) → H' t = some (.tup xs) := fun t xs e => by
  obtain ⟨_, _, h1, _⟩ := hp
  exact b _ _ (ne_of e h1 (by intro z; cases z)) e
omit B in
theorem PotAt.fr {H : Hp} {p E : Addr} {o : HO} (h : PotAt H p) (n : p ≠ E) : PotAt (L2.upd H E o) p := by
  obtain ⟨a, b, h1, h2⟩ := h
  exact ⟨a, b, by rw [upd_ne n]; exact h1, h2⟩
def spWhT (K : PySem.W.Frag) : Sp := fun vs H Q _ => ∃ (v : V) (d : PyData) (p : Addr), vs = [v] ∧ Th K p H v d ∧ Q (.bl (isWh d)) H
theorem k_is_whole (D : Df K mg "is_whole" s_is_whole ["thing"]) : Dn P w K mg base 1 "is_whole" ["thing"] (spWhT K) := by
  refine D.ok fun f fd F => okG0 F sc_is_whole (fun vs H Q E h => ?_) (fun cdv A outer s H vs Q E hr h => ⟨_, (pss_one (ps_ret (pe_and (pe_callB (kk (K := K) (F := rIsi) (P := CallR _ _) call_isi) (by rfl) B.isinstance_ (by decide +kernel) (pa_cons (pv 0) (pa_cons (pe_bltn (v := .ty "int") (u := .type "int") (by rfl) B.int_ (by decide +kernel) rfl) pa_nil))) (pe_one (pe_not (pe_callB (kk (K := K) (F := rIsi) (P := CallR _ _) call_isi) (by rfl) B.isinstance_ (by decide +kernel) (pa_cons (pv 0) (pa_cons (pe_bltn (v := .ty "bool") (u := .type "bool") (by rfl) B.bool_ (by decide +kernel) rfl) pa_nil)))))))), ?_⟩)
  · obtain ⟨v, d, p, rfl, _⟩ := h; rfl
  · obtain ⟨v, d, p, rfl, hd, q⟩ := h
    have ty := hd.ty
    have k1 := kit_in (K := K) d
    have k2 := kit_bl (K := K) d
    rw [isWh_eq] at q
    generalize isIn d = x at k1 q
    generalize isBl d = y at k2 q
    cases x
    all_goals
      try walk_at "go"
      first | exact q | exact ifF rfl q | exact ifT rfl q
def spWhT2 (K : PySem.W.Frag) : Sp := fun vs H Q _ => ∃ (v : V) (d : PyData) (p : Addr), vs = [v] ∧ Th K p H v d ∧ Q (.bl (isWh d)) H
theorem k__law_is_whole (D : Df K mg "_law_is_whole" s__law_is_whole ["_law_thing"]) : Dn P w K mg base 1 "_law_is_whole" ["_law_thing"] (spWhT2 K) := by
  refine D.ok fun f fd F => okG0 F sc__law_is_whole (fun vs H Q E h => ?_) (fun cdv A outer s H vs Q E hr h => ⟨_, (pss_one (ps_ret (pe_and (pe_callB (kk (K := K) (F := rIsi) (P := CallR _ _) call_isi) (by rfl) B.isinstance_ (by decide +kernel) (pa_cons (pv 0) (pa_cons (pe_bltn (v := .ty "int") (u := .type "int") (by rfl) B.int_ (by decide +kernel) rfl) pa_nil))) (pe_one (pe_not (pe_callB (kk (K := K) (F := rIsi) (P := CallR _ _) call_isi) (by rfl) B.isinstance_ (by decide +kernel) (pa_cons (pv 0) (pa_cons (pe_bltn (v := .ty "bool") (u := .type "bool") (by rfl) B.bool_ (by decide +kernel) rfl) pa_nil)))))))), ?_⟩)
  · obtain ⟨v, d, p, rfl, _⟩ := h; rfl
  · obtain ⟨v, d, p, rfl, hd, q⟩ := h
    have ty := hd.ty
    have k1 := kit_in (K := K) d
    have k2 := kit_bl (K := K) d
    rw [isWh_eq] at q
    generalize isIn d = x at k1 q
    generalize isBl d = y at k2 q
    cases x
    all_goals
      try walk_at "go"
      first | exact q | exact ifF rfl q | exact ifT rfl q
def spRowT (K : PySem.W.Frag) : Sp := fun vs H Q _ => ∃ (v : V) (d : PyData) (p : Addr) (n : Nat), vs = [v, .int n] ∧ Th K p H v d ∧ Q (.bl (isN n d)) H
theorem k_is_row_of (D : Df K mg "is_row_of" s_is_row_of ["thing", "many"]) : Dn P w K mg base 1 "is_row_of" ["thing", "many"] (spRowT K) := by
  refine D.ok fun f fd F => okG0 F sc_is_row_of (fun vs H Q E h => ?_) (fun cdv A outer s H vs Q E hr h => ⟨_, (pss_one (ps_ret (pe_and (pe_callB (kk (K := K) (F := rIsi) (P := CallR _ _) call_isi) (by rfl) B.isinstance_ (by decide +kernel) (pa_cons (pv 0) (pa_cons (pe_bltn (v := .ty "tuple") (u := .type "tuple") (by rfl) B.tuple_ (by decide +kernel) rfl) pa_nil))) (pe_one (pe_cmpR op_eq (pe_callB (lenK (K := K)) (by rfl) B.len_ (by decide +kernel) (pa_cons (pv 0) pa_nil)) (pv 1) (nomark _)))))), ?_⟩)
  · obtain ⟨v, d, p, n, rfl, _⟩ := h; rfl
  · obtain ⟨v, d, p, n, rfl, hd, q⟩ := h
    have ty := hd.ty
    have k1 := kit_tu (K := K) d
    cases ed : isTu d with
    | false =>
      rw [ed] at k1
      rw [isN_no ed] at q
      try walk_at "go"
      first | exact q | exact ifF rfl q
    | true =>
      rw [ed] at k1
      obtain ⟨ds, rfl⟩ := isTu_inv ed
      obtain ⟨a, tr, rfl, rfl, ha, htr⟩ := hd.tup_inv
      have e1 : decide (V.int ((List.map (fun t : V × PyData => t.1) tr).length : Nat) = V.int n) = isN n (.tuple (tr.map fun t => t.2)) := by
        show _ = decide ((tr.map fun t => t.2).length = n)
        rw [len_map1, len_map2]
        by_cases c : tr.length = n
        · rw [decide_eq_true (by rw [c]), decide_eq_true c]
        · rw [decide_eq_false fun z => c (by injection z with z; omega), decide_eq_false c]
      rw [← e1] at q
      try walk_at "go"
      exact q
def spEndT (K : PySem.W.Frag) : Sp := fun vs H Q _ => ∃ (v : V) (d : PyData) (p : Addr), vs = [v] ∧ Th K p H v d ∧ Q (.bl (isEnd d)) H
theorem k_is_end (D : Df K mg "is_end" s_is_end ["thing"]) (D_is_whole : Dn P w K mg base 1 "is_whole" ["thing"] (spWhT K)) : Dn P w K mg base 2 "is_end" ["thing"] (spEndT K) := by
  refine D.ok fun f fd F => okG0 F sc_is_end (fun vs H Q E h => ?_) (fun cdv A outer s H vs Q E hr h => ⟨_, (pss_one (ps_ret (pe_or (pe_cmpR op_isN (pv 0) pe_non (nomark _)) (pe_one (pe_cD D_is_whole (hr.less (by decide)) rfl (pa_cons (pv 0) pa_nil)))))), ?_⟩)
  · obtain ⟨v, d, p, rfl, _⟩ := h; rfl
  · obtain ⟨v, d, p, rfl, hd, q⟩ := h
    try walk_at "go"
    rw [hd.no_dec]
    unfold isEnd at q
    cases e : isNo d with
    | true =>
      rw [e] at q
      refine ifT rfl ?_
      exact q
    | false =>
      rw [e, Bool.false_or] at q
      refine ifF rfl ?_
      try walk_at "go"
      exact q
def spDeedT (K : PySem.W.Frag) : Sp := fun vs H Q _ => ∃ (v : V) (d : PyData) (p : Addr), vs = [v] ∧ Th K p H v d ∧ Q (.bl (isDd d)) H
theorem k_is_deed (D : Df K mg "is_deed" s_is_deed ["thing"]) (D_is_whole : Dn P w K mg base 1 "is_whole" ["thing"] (spWhT K)) (D_is_row_of : Dn P w K mg base 1 "is_row_of" ["thing", "many"] (spRowT K)) (D_is_end : Dn P w K mg base 2 "is_end" ["thing"] (spEndT K)) : Dn P w K mg base 3 "is_deed" ["thing"] (spDeedT K) := by
  refine D.ok fun f fd F => okG0 F sc_is_deed (fun vs H Q E h => ?_) (fun cdv A outer s H vs Q E hr h => ⟨_, (pss_cons (ps_if (PW.pt (pw_or (pt_not (pt_val (pe_cD D_is_row_of (hr.less (by decide)) rfl (pa_cons (pv 0) (pa_cons pe_int pa_nil))))) (pw_or (pt_not (pt_val (pe_cD D_is_whole (hr.less (by decide)) rfl (pa_cons (pe_ix (kk (K := K) (F := rIxT) (P := IxR _) ix_tup) (pv 0) pe_int (fun _ _ => rfl)) pa_nil)))) (pw_or (pt_not (pt_val (pe_cD D_is_end (hr.less (by decide)) rfl (pa_cons (pe_ix (kk (K := K) (F := rIxT) (P := IxR _) ix_tup) (pv 0) pe_int (fun _ _ => rfl)) pa_nil)))) (pw_or1 (pt_not (pt_val (pe_cD D_is_end (hr.less (by decide)) rfl (pa_cons (pe_ix (kk (K := K) (F := rIxT) (P := IxR _) ix_tup) (pv 0) pe_int (fun _ _ => rfl)) pa_nil)))))))))
      (pss_one (ps_ret pe_bl))
      pss_nil)
    (pss_cons (ps_asg (pv 0) (kk (K := K) (F := fun K => gTup K 3 _) (P := PG _ _) (pg_tup rfl (pgs_cons (pg_name (i := 1) sc_is_deed.nd rfl (Or.inl rfl)) (pgs_cons (pg_name (i := 2) sc_is_deed.nd rfl (Or.inl rfl)) (pgs_cons (pg_name (i := 3) sc_is_deed.nd rfl (Or.inl rfl)) pgs_nil))))))
    (pss_cons (ps_if (PW.pt (pw_or (pt_cmpR op_isN (pv 2) pe_non (nomark _)) (pw_or1 (pt_cmpR op_isN (pv 3) pe_non (nomark _)))))
      (pss_one (ps_ret pe_bl))
      pss_nil)
    (pss_one (ps_ret (pe_or (pe_cmpR op_lt (pv 2) (pv 3) (nomark _)) (pe_one (pe_and (pe_cmpR op_eq (pv 2) (pv 3) (nomark _)) (pe_one (pe_cmpR op_eq (pv 1) pe_int (nomark _))))))))))), ?_⟩)
  · obtain ⟨v, d, p, rfl, _⟩ := h; rfl
  · obtain ⟨v, d, p, rfl, hd, q⟩ := h
    try walk_at "go"
    cases e0 : isN 3 d with
    | false =>
      rw [isDd_no e0] at q
      refine ifT rfl ?_
      try walk_at "go"
      exact q
    | true =>
      obtain ⟨ds, rfl, l3⟩ := isN_tu e0
      obtain ⟨a, tr, rfl, rfl, ha, htr⟩ := hd.tup_inv
      rw [len_map2] at l3
      obtain ⟨⟨xv, xd⟩, ⟨yv, yd⟩, ⟨zv, zd⟩, rfl⟩ : ∃ x y z, tr = [x, y, z] := by
        match tr, l3 with
        | [x, y, z], _ => exact ⟨x, y, z, rfl⟩
      have hx : Th K p H xv xd := htr _ List.mem_cons_self
      have hy : Th K p H yv yd := htr _ (List.mem_cons_of_mem _ List.mem_cons_self)
      have hz : Th K p H zv zd := htr _ (List.mem_cons_of_mem _ (List.mem_cons_of_mem _ List.mem_cons_self))
      have ha : H a = some (.tup [xv, yv, zv]) := ha
      have i0 : atI [xv, yv, zv] 0 = some xv := rfl
      have i1 : atI [xv, yv, zv] 1 = some yv := rfl
      have i2 : atI [xv, yv, zv] 2 = some zv := rfl
      replace q : Q (.bl (isWh xd && (isEnd yd && (isEnd zd && okE xd yd zd)))) H := q
      refine ifF rfl ?_
      try walk_at "go"
      cases e1 : isWh xd with
      | false =>
        rw [e1, Bool.false_and] at q
        refine ifT rfl ?_
        try walk_at "go"
        exact q
      | true =>
      rw [e1, Bool.true_and] at q
      refine ifF rfl ?_
      try walk_at "go"
      cases e2 : isEnd yd with
      | false =>
        rw [e2, Bool.false_and] at q
        refine ifT rfl ?_
        try walk_at "go"
        exact q
      | true =>
      rw [e2, Bool.true_and] at q
      refine ifF rfl ?_
      try walk_at "go"
      cases e3 : isEnd zd with
      | false =>
        rw [e3, Bool.false_and] at q
        refine ifT rfl ?_
        try walk_at "go"
        exact q
      | true =>
      rw [e3, Bool.true_and] at q
      refine ifF rfl ?_
      obtain ⟨i, rfl⟩ := isWh_inv e1
      cases hx.int_inv
      have eno : ∀ {v : V} {d : PyData}, Th K p H v d → isEnd d = true → (v = .non ∧ d = .none) ∨ ∃ j, v = .int j ∧ d = .int j := fun {v d} h e => by
        cases h with
        | non => exact .inl ⟨rfl, rfl⟩
        | int j => exact .inr ⟨j, rfl, rfl⟩
        | _ => cases e
      rcases eno hy e2 with ⟨rfl, rfl⟩ | ⟨l, rfl, rfl⟩
      · try walk_at "go"
        refine ifT rfl (ifT rfl ?_)
        try walk_at "go"
        exact q
      · rcases eno hz e3 with ⟨rfl, rfl⟩ | ⟨u, rfl, rfl⟩
        · try walk_at "go"
          refine ifT rfl ?_
          try walk_at "go"
          exact q
        · replace q : Q (.bl (decide (l < u) || (decide (l = u) && decide (i = 0)))) H := q
          try walk_at "go"
          refine ite2 (fun c1 => ?_) (fun c1 => ?_)
          · rw [c1, Bool.true_or] at q
            exact q
          · rw [Bool.eq_false_iff.mpr c1, Bool.false_or] at q
            try walk_at "go"
            by_cases c2 : l = u
            · rw [decide_eq_true c2, Bool.true_and] at q
              refine ifT (decide_eq_true (by rw [c2])) ?_
              try walk_at "go"
              have e4 : decide (V.int i = V.int 0) = decide (i = 0) := by
                by_cases c3 : i = 0
                · rw [decide_eq_true c3, c3, decide_eq_true rfl]
                · rw [decide_eq_false c3, decide_eq_false fun z => c3 (V.int.inj z)]
              rw [← e4] at q
              exact q
            · rw [decide_eq_false c2, Bool.false_and] at q
              refine ifF (decide_eq_false fun z => c2 (V.int.inj z)) ?_
              exact q
def spBdT (K : PySem.W.Frag) : Sp := fun vs H Q _ => ∃ (v : V) (d : PyData) (p : Addr), vs = [v] ∧ Th K p H v d ∧ ∀ H', Same H H' → Q (.bl (isBd d)) H'
theorem k_is_board (D : Df K mg "is_board" s_is_board ["thing"]) (D_is_whole : Dn P w K mg base 1 "is_whole" ["thing"] (spWhT K)) : Dn P w K mg base 2 "is_board" ["thing"] (spBdT K) := by
  refine D.ok fun f fd F => okG0 F sc_is_board (fun vs H Q E h => ?_) (fun cdv A outer s H vs Q E hr h => ⟨_, (pss_one (ps_ret (pe_and (pe_callB (kk (K := K) (F := rIsi) (P := CallR _ _) call_isi) (by rfl) B.isinstance_ (by decide +kernel) (pa_cons (pv 0) (pa_cons (pe_bltn (v := .ty "tuple") (u := .type "tuple") (by rfl) B.tuple_ (by decide +kernel) rfl) pa_nil))) (pe_and (pe_chain op_le op_le pe_int (pe_callB (lenK (K := K)) (by rfl) B.len_ (by decide +kernel) (pa_cons (pv 0) pa_nil)) (pe_glob (v := .int (16)) (u := .int (16) B.MOST_BOXES_.choose) (by rfl) B.MOST_BOXES_.choose_spec ⟨_, rfl⟩)) (pe_one (pe_callB (kk (K := K) (F := rAll) (P := CallR _ _) (cr_all rfl)) (by rfl) B.all_ (by decide +kernel) (pa_cons (pe_lc (own := [("value", 1)]) (g := gName 1) (tt := tYes) rfl sc_is_board.nd (kk (K := K) (F := fun K => iTup K _) (P := PI _ _ _) (pi_tup (pv 0))) (blkOk_by (own := [("value", 1)]) (N := ["thing", "value"]) (sc := defScope s_is_board) (by decide +kernel)) (fun _ _ _ _ _ => (pg_name (i := 1) sc_is_board.nd rfl (Or.inl rfl))) (fun _ _ _ _ _ => pts_nil) (fun _ _ _ _ _ => (pe_cD D_is_whole (hr.less (by decide)) rfl (pa_cons (pv 1) pa_nil)))) pa_nil))))))), ?_⟩)
  · obtain ⟨v, d, p, rfl, _⟩ := h; rfl
  · obtain ⟨v, d, p, rfl, hd, q⟩ := h
    have ty := hd.ty
    have k1 := kit_tu (K := K) d
    cases ed : isTu d with
    | false =>
      rw [ed] at k1
      rw [isBd_no ed] at q
      try walk_at "go"
      first | exact q _ (Same.refl _) | exact ifF rfl (q _ (Same.refl _))
    | true =>
      rw [ed] at k1
      obtain ⟨ds, rfl⟩ := isTu_inv ed
      obtain ⟨a, tr, rfl, rfl, ha, htr⟩ := hd.tup_inv
      have eb : isBd (.tuple (tr.map fun t => t.2)) = (decide (1 ≤ tr.length) && (decide (tr.length ≤ 16) && (tr.map fun t => t.2).all isWh)) := by
        show (decide (1 ≤ (tr.map fun t => t.2).length) && (decide ((tr.map fun t => t.2).length ≤ 16) && _)) = _
        rw [len_map2]
      rw [eb] at q
      try walk_at "go"
      refine ite2 (fun c1 => ?_) (fun c1 => ?_)
      · have c1' : 1 ≤ tr.length := by have := of_decide_eq_true c1; rw [len_map1] at this; omega
        rw [decide_eq_true c1', Bool.true_and] at q
        try walk_at "go"
        refine ite2 (fun c2 => ?_) (fun c2 => ?_)
        · have c2' : tr.length ≤ 16 := by have := of_decide_eq_true c2; rw [len_map1] at this; omega
          rw [decide_eq_true c2', Bool.true_and] at q
          try walk_at "go"
          intro D hD
          refine lc_tup (K := K) (a := a) (xs := tr.map fun t => t.1) (fun i H' => Kept (Same H H' ∧ H' D = some (.lst (((tr.take i).map fun t => isWh t.2).map V.bl)))) ⟨same_new hD _, upd_same⟩ (fun i H' _ h => SqT.of (h.ex.1 _ _ ha)) ?_ ?_
          · rintro i y H2 hi ⟨S2, hD2⟩
            rw [List.getElem?_map] at hi
            obtain ⟨t, ht, rfl⟩ := Option.map_eq_some_iff.mp hi
            have th2 := (htr t (List.mem_of_getElem? ht)).same S2
            have ln : (((tr.take i).map fun t => isWh t.2).map V.bl).length ≤ 100 := by rw [List.length_map, List.length_map, List.length_take]; omega
            try walk_at "go"
            exact ⟨⟨but_same hD S2 But.upd, by rw [upd_same, take_snocB isWh ht]⟩⟩
          · rintro H2 ⟨S2, hD2⟩
            try walk_at "go"
            rw [take_all]
            exact q _ S2
        · have c2' : ¬ tr.length ≤ 16 := fun z => c2 (decide_eq_true (by rw [len_map1]; omega))
          rw [decide_eq_false c2', Bool.false_and] at q
          exact q _ (Same.refl _)
      · have c1' : ¬ 1 ≤ tr.length := fun z => c1 (decide_eq_true (by rw [len_map1]; omega))
        rw [decide_eq_false c1', Bool.false_and] at q
        try walk_at "go"
        exact q _ (Same.refl _)
def spWBdT (K : PySem.W.Frag) (C : Addr) : Sp := fun vs H Q E => ∃ (v : V) (d : PyData) (p : Addr), vs = [v] ∧ Th K p H v d ∧ ∀ H', Same H H' → (isBd d = true → Q .non H') ∧ (isBd d = false → E (.ref C) none H')
theorem k_want_board (D : Df K mg "want_board" s_want_board ["board"]) (D_is_board : Dn P w K mg base 2 "is_board" ["thing"] (spBdT K)) : Dx P w K mg base 3 "want_board" ["board"] (spWBdT K (cAt mg "NoBoard")) := by
  refine D.okX fun f fd F => okGX F sc_want_board (fun vs H Q E h => ?_) (fun cdv A outer s H vs Q E hr h => ⟨_, (pss_one (ps_if (pt_not (pt_val (pe_cD D_is_board (hr.less (by decide)) rfl (pa_cons (pv 0) pa_nil))))
     (pss_one (ps_raise rfl (takes_of rfl rfl rfl rfl) (pmk_own PySem.F.excBase_ValueError B.NoBoard_.ex B.NoBoard_.mg_ B.NoBoard_.kp (raises_own B.NoBoard_.bs B.NoBoard_.tp) rfl)))
     pss_nil)), ?_⟩)
  · obtain ⟨v, d, p, rfl, _⟩ := h; rfl
  · obtain ⟨v, d, p, rfl, hd, q⟩ := h
    try walk_at "go"
    intro H1 S1
    cases e : isBd d with
    | true =>
      try walk_at "go"
      refine ifF rfl ?_
      try walk_at "go"
      exact (q _ S1).1 e
    | false =>
      try walk_at "go"
      refine ifT rfl ?_
      exact (q _ S1).2 e
def spAkT (K : PySem.W.Frag) : Sp := fun vs H Q _ => ∃ (b : Addr) (bv : List V) (v : V) (d : PyData) (p : Addr), vs = [.ref b, v] ∧ H b = some (.tup bv) ∧ bv.length ≤ 16 ∧ Th K p H v d ∧ Q (.bl (isAk bv.length d)) H
theorem k_is_ask (D : Df K mg "is_ask" s_is_ask ["board", "thing"]) (D_is_whole : Dn P w K mg base 1 "is_whole" ["thing"] (spWhT K)) (D_is_deed : Dn P w K mg base 3 "is_deed" ["thing"] (spDeedT K)) : Dn P w K mg base 4 "is_ask" ["board", "thing"] (spAkT K) := by
  refine D.ok fun f fd F => okG0 F sc_is_ask (fun vs H Q E h => ?_) (fun cdv A outer s H vs Q E hr h => ⟨_, (pss_cons (ps_if (PW.pt (pw_or (pt_not (pt_val (pe_callB (kk (K := K) (F := rIsi) (P := CallR _ _) call_isi) (by rfl) B.isinstance_ (by decide +kernel) (pa_cons (pv 1) (pa_cons (pe_bltn (v := .ty "tuple") (u := .type "tuple") (by rfl) B.tuple_ (by decide +kernel) rfl) pa_nil))))) (pw_or (pt_cmpR op_ne (pe_callB (lenK (K := K)) (by rfl) B.len_ (by decide +kernel) (pa_cons (pv 1) pa_nil)) pe_int (nomark _)) (pw_or (pt_not (pt_val (pe_cD D_is_whole (hr.less (by decide)) rfl (pa_cons (pe_ix (kk (K := K) (F := rIxT) (P := IxR _) ix_tup) (pv 1) pe_int (fun _ _ => rfl)) pa_nil)))) (pw_or1 (pt_not (pt_val (pe_cD D_is_whole (hr.less (by decide)) rfl (pa_cons (pe_ix (kk (K := K) (F := rIxT) (P := IxR _) ix_tup) (pv 1) pe_int (fun _ _ => rfl)) pa_nil)))))))))
      (pss_one (ps_ret pe_bl))
      pss_nil)
    (pss_one (ps_ret (pe_and (pe_chain op_le op_lt pe_int (pe_ix (kk (K := K) (F := rIxT) (P := IxR _) ix_tup) (pv 1) pe_int (fun _ _ => rfl)) (pe_glob (v := .int (16)) (u := .int (16) B.HANDS_.choose) (by rfl) B.HANDS_.choose_spec ⟨_, rfl⟩)) (pe_and (pe_chain op_le op_lt pe_int (pe_ix (kk (K := K) (F := rIxT) (P := IxR _) ix_tup) (pv 1) pe_int (fun _ _ => rfl)) (pe_callB (lenK (K := K)) (by rfl) B.len_ (by decide +kernel) (pa_cons (pv 0) pa_nil))) (pe_one (pe_cD D_is_deed (hr.less (by decide)) rfl (pa_cons (pe_ix (kk (K := K) (F := rIxT) (P := IxR _) ix_tup) (pv 1) pe_int (fun _ _ => rfl)) pa_nil)))))))), ?_⟩)
  · obtain ⟨b, bv, v, d, p, rfl, _⟩ := h; rfl
  · obtain ⟨b, bv, v, d, p, rfl, hb, h16, hd, q⟩ := h
    have ty := hd.ty
    have k1 := kit_tu (K := K) d
    cases e0 : isN 3 d with
    | false =>
      rw [isAk_no e0] at q
      cases ed : isTu d with
      | false =>
        rw [ed] at k1
        try walk_at "go"
        refine ifT rfl ?_
        try walk_at "go"
        exact q
      | true =>
        rw [ed] at k1
        obtain ⟨ds, rfl⟩ := isTu_inv ed
        obtain ⟨a, tr, rfl, rfl, ha, htr⟩ := hd.tup_inv
        have l3 : (tr.map fun t => t.1).length ≠ 3 := fun z => by
          have e0 : decide ((tr.map fun t => t.2).length = 3) = false := e0
          rw [len_map2] at e0
          rw [len_map1] at z
          exact of_decide_eq_false e0 z
        try walk_at "go"
        refine ifT (dec_ne' l3) ?_
        try walk_at "go"
        exact q
    | true =>
      obtain ⟨ds, rfl, l3⟩ := isN_tu e0
      obtain ⟨a, tr, rfl, rfl, ha, htr⟩ := hd.tup_inv
      rw [len_map2] at l3
      obtain ⟨⟨xv, xd⟩, ⟨yv, yd⟩, ⟨zv, zd⟩, rfl⟩ : ∃ x y z, tr = [x, y, z] := by
        match tr, l3 with
        | [x, y, z], _ => exact ⟨x, y, z, rfl⟩
      have hx : Th K p H xv xd := htr _ List.mem_cons_self
      have hy : Th K p H yv yd := htr _ (List.mem_cons_of_mem _ List.mem_cons_self)
      have hz : Th K p H zv zd := htr _ (List.mem_cons_of_mem _ (List.mem_cons_of_mem _ List.mem_cons_self))
      have ha : H a = some (.tup [xv, yv, zv]) := ha
      have i0 : atI [xv, yv, zv] 0 = some xv := rfl
      have i1 : atI [xv, yv, zv] 1 = some yv := rfl
      have i2 : atI [xv, yv, zv] 2 = some zv := rfl
      replace q : Q (.bl (isWh xd && (isWh yd && ((decide (0 ≤ wnD xd) && decide (wnD xd < 16)) && ((decide (0 ≤ wnD yd) && decide (wnD yd < (bv.length : Int))) && isDd zd))))) H := q
      have k1 : PySem.W.kitOne K (.type (tyD (.tuple [xd, yd, zd]))) (.type "tuple") = some true := k1
      have ty : TyX K H (.ref a) (.type (tyD (.tuple [xd, yd, zd]))) := ty
      try walk_at "go"
      cases e1 : isWh xd with
      | false =>
        rw [e1, Bool.false_and] at q
        refine ifT rfl ?_
        try walk_at "go"
        exact q
      | true =>
      rw [e1, Bool.true_and] at q
      refine ifF rfl ?_
      try walk_at "go"
      cases e2 : isWh yd with
      | false =>
        rw [e2, Bool.false_and] at q
        refine ifT rfl ?_
        try walk_at "go"
        exact q
      | true =>
      rw [e2, Bool.true_and] at q
      refine ifF rfl ?_
      obtain ⟨i, rfl⟩ := isWh_inv e1
      obtain ⟨j, rfl⟩ := isWh_inv e2
      cases hx.int_inv
      cases hy.int_inv
      replace q : Q (.bl ((decide (0 ≤ i) && decide (i < 16)) && ((decide (0 ≤ j) && decide (j < (bv.length : Int))) && isDd zd))) H := q
      try walk_at "go"
      refine ite2 (fun c1 => ?_) (fun c1 => ?_)
      · rw [c1, Bool.true_and] at q
        try walk_at "go"
        refine ite2 (fun c2 => ?_) (fun c2 => ?_)
        · rw [c2, Bool.true_and] at q
          try walk_at "go"
          refine ite2 (fun c3 => ?_) (fun c3 => ?_)
          · rw [c3, Bool.true_and] at q
            try walk_at "go"
            refine ite2 (fun c4 => ?_) (fun c4 => ?_)
            · rw [c4, Bool.true_and] at q
              try walk_at "go"
              exact q
            · rw [Bool.eq_false_iff.mpr c4, Bool.false_and] at q
              exact q
          · rw [Bool.eq_false_iff.mpr c3, Bool.false_and] at q
            try walk_at "go"
            exact q
        · rw [Bool.eq_false_iff.mpr c2, Bool.false_and] at q
          exact q
      · rw [Bool.eq_false_iff.mpr c1, Bool.false_and] at q
        try walk_at "go"
        exact q
def spAsT (K : PySem.W.Frag) (C : Addr) : Sp := fun vs H Q E => ∃ (bv0 v : V) (bd d : PyData) (p p2 : Addr), vs = [bv0, v] ∧ Th K p H bv0 bd ∧ Th K p2 H v d ∧ nsz d ≤ 2000000 ∧ (∀ n ds, bd = .tuple ds → ds.length = n → isBd bd = true → ∀ H', Same H H' → Q (.bl (isAs n d)) H') ∧ (isBd bd = false → ∀ H', Same H H' → E (.ref C) none H')
theorem k_are_asks (D : Df K mg "are_asks" s_are_asks ["board", "thing"]) (D_want_board : Dx P w K mg base 3 "want_board" ["board"] (spWBdT K (cAt mg "NoBoard"))) (D_is_ask : Dn P w K mg base 4 "is_ask" ["board", "thing"] (spAkT K)) : Dx P w K mg base 5 "are_asks" ["board", "thing"] (spAsT K (cAt mg "NoBoard")) := by
  refine D.okX fun f fd F => okGX F sc_are_asks (fun vs H Q E h => ?_) (fun cdv A outer s H vs Q E hr h => ⟨_, (pss_cons (ps_expr (pe_cW D_want_board (hr.less (by decide)) (takes_of rfl rfl rfl rfl) rfl (pa_cons (pv 0) pa_nil)))
    (pss_one (ps_ret (pe_and (pe_callB (kk (K := K) (F := rIsi) (P := CallR _ _) call_isi) (by rfl) B.isinstance_ (by decide +kernel) (pa_cons (pv 1) (pa_cons (pe_bltn (v := .ty "tuple") (u := .type "tuple") (by rfl) B.tuple_ (by decide +kernel) rfl) pa_nil))) (pe_one (pe_callB (kk (K := K) (F := rAll) (P := CallR _ _) (cr_all rfl)) (by rfl) B.all_ (by decide +kernel) (pa_cons (pe_lc (own := [("one", 2)]) (g := gName 2) (tt := tYes) rfl sc_are_asks.nd (kk (K := K) (F := fun K => iTup K _) (P := PI _ _ _) (pi_tup (pv 1))) (blkOk_by (own := [("one", 2)]) (N := ["board", "thing", "one"]) (sc := defScope s_are_asks) (by decide +kernel)) (fun _ _ _ _ _ => (pg_name (i := 2) sc_are_asks.nd rfl (Or.inl rfl))) (fun _ _ _ _ _ => pts_nil) (fun _ _ _ _ _ => (pe_cD D_is_ask (hr.less (by decide)) rfl (pa_cons (pv 0) (pa_cons (pv 2) pa_nil))))) pa_nil))))))), ?_⟩)
  · obtain ⟨bv0, v, bd, d, p, p2, rfl, _⟩ := h; rfl
  · obtain ⟨bv0, v, bd, d, p, p2, rfl, hb, hd, hz, q1, q2⟩ := h
    try walk_at "go"
    intro H1 S1
    refine ⟨fun eb => ?_, fun eb => q2 eb H1 S1⟩
    obtain ⟨bs, rfl, l1, l2, l3⟩ := isBd_tu eb
    obtain ⟨b, br, rfl, rfl, hb', hbr⟩ := hb.tup_inv
    have q := q1 _ _ rfl rfl eb
    clear q1 q2
    rw [len_map2] at q l1 l2
    have hb1 := S1 _ _ hb'
    have l16 : (br.map fun t => t.1).length ≤ 16 := by rw [len_map1]; exact l2
    have hd1 := hd.same S1
    have ty := hd1.ty
    have k1 := kit_tu (K := K) d
    cases ed : isTu d with
    | false =>
      rw [ed] at k1
      rw [isAs_no ed] at q
      try walk_at "go"
      first | exact q _ S1 | exact ifF rfl (q _ S1)
    | true =>
      rw [ed] at k1
      obtain ⟨ds, rfl⟩ := isTu_inv ed
      obtain ⟨a, tr, rfl, rfl, ha, htr⟩ := hd1.tup_inv
      try walk_at "go"
      intro D hD
      refine lc_tup (K := K) (a := a) (xs := tr.map fun t => t.1) (fun i H' => Kept (Same H1 H' ∧ H' D = some (.lst (((tr.take i).map fun t => isAk br.length t.2).map V.bl)))) ⟨same_new hD _, upd_same⟩ (fun i H' _ h => SqT.of (h.ex.1 _ _ ha)) ?_ ?_
      · rintro i y H2 hi ⟨S2, hD2⟩
        rw [List.getElem?_map] at hi
        obtain ⟨t, ht, rfl⟩ := Option.map_eq_some_iff.mp hi
        have th2 := (htr t (List.mem_of_getElem? ht)).same S2
        have hb2 := S2 _ _ hb1
        have ln : (((tr.take i).map fun t => isAk br.length t.2).map V.bl).length ≤ 2000000 := by
          have h1 := nszs_len (tr.map fun t => t.2)
          have h2 : 1 + nszs (tr.map fun t => t.2) ≤ 2000000 := hz
          rw [len_map2] at h1
          rw [List.length_map, List.length_map, List.length_take]
          omega
        have slz : 3000000 ≤ sizeLine := by decide
        try walk_at "go"
        rw [len_map1 (tr := br)]
        exact ⟨⟨but_same hD S2 But.upd, by rw [upd_same, take_snocB (isAk br.length) ht]⟩⟩
      · rintro H2 ⟨S2, hD2⟩
        try walk_at "go"
        rw [take_all]
        exact q _ (S1.trans S2)
/-! ### the law's own -/
def spPot2 (K : PySem.W.Frag) : Sp := fun vs H Q _ => ∃ (a : Addr) (ns : List Int) (k : Nat), vs = [.ref a, .int k] ∧ SqL K H a (ns.map V.int) ∧ k ≤ 60 ∧ ∀ p H', H p = none → Same H H' → PotAt H' p → Q (.ref p) H'
theorem k__law_pot (D : Df K mg "_law_pot" s__law_pot ["_law_script", "_law_k"]) : Dn P w K mg base 1 "_law_pot" ["_law_script", "_law_k"] (spPot2 K) := by
  refine D.ok fun f fd F => okG0 F sc__law_pot (fun vs H Q E h => ?_) (fun cdv A outer s H vs Q E hr h => ⟨_, (pss_cons (ps_set (i := 2) sc__law_pot.nd rfl (Or.inl rfl) (pe_lst (pa_cons pe_int (pa_cons pe_int (pa_cons pe_int (pa_cons pe_int (pa_cons pe_int (pa_cons pe_int (pa_cons pe_int (pa_cons pe_int pa_nil))))))))))
    (pss_cons (ps_set (i := 3) sc__law_pot.nd rfl (Or.inl rfl) pe_int)
    (C8.pss_cut (ps_if (pt_cmpR op_lt (pv 1) (pe_callB (lenK (K := K)) (by rfl) B.len_ (by decide +kernel) (pa_cons (pv 0) pa_nil)) (nomark _))
      (pss_one (ps_set (i := 3) sc__law_pot.nd rfl (Or.inl rfl) (pe_ix (kk (K := K) (F := rIxL) (P := IxR _) ix_list) (pv 0) (pv 1) (fun _ _ => rfl))))
      pss_nil)
    (pss_one (ps_ret (pe_lst (pa_cons (pe_callB (call_max2 rfl) (by rfl) B.max_ (by decide +kernel) (pa_cons pe_int (pa_cons (pe_op op_sub (pv 3) (pe_op op_pow pe_int pe_int)) pa_nil))) (pa_cons (pe_op op_mod (pe_op op_pow (pe_op op_add (pe_op op_add (pe_op op_mod (pv 3) (pe_ix (kk (K := K) (F := rIxL) (P := IxR _) ix_list) (pv 2) (pe_op op_mod (pv 1) pe_int) (fun _ _ => rfl))) (pe_op op_mulX pe_int (pv 1))) pe_int) pe_int) (pe_ix (kk (K := K) (F := rIxL) (P := IxR _) ix_list) (pv 2) (pe_op op_mod (pv 1) pe_int) (fun _ _ => rfl))) pa_nil)))))))), ?_⟩)
  · obtain ⟨a, ns, k, rfl, _⟩ := h; rfl
  · obtain ⟨a, ns, k, rfl, hs, hk, q⟩ := h
    refine ⟨sz, fun l hl => ?_⟩
    have S1 := same_new hl (.lst [.int 2147483629, .int 2147483587, .int 2147483579, .int 2147483563, .int 2147483549, .int 2147483543, .int 2147483497, .int 2147483489])
    refine ⟨fun σ H1 => ∃ c : Int, σ = [some (.ref a), some (.int k), some (.ref l), some (.int c)] ∧ H1 = upd H l (.lst [.int 2147483629, .int 2147483587, .int 2147483579, .int 2147483563, .int 2147483549, .int 2147483543, .int 2147483497, .int 2147483489]), ?_, ?_⟩
    · refine ⟨_, rfl, _, rfl, a, _, rfl, .inl (S1.seq hs), _, _, rfl, rfl, _, rfl, ite2 (fun c => ?_) (fun c => ?_)⟩
      · have c' : (k : Int) < ((ns.map V.int).length : Nat) := of_decide_eq_true c
        have hk2 : k < ns.length := by rw [List.length_map] at c'; omega
        exact ⟨_, rfl, _, rfl, a, _, _, _, rfl, rfl, S1.seq hs, at_of (j := k) rfl (by rw [List.getElem?_map, List.getElem?_eq_getElem hk2] <;> rfl), _, rfl, rfl⟩
      · exact ⟨_, rfl, rfl⟩
    · rintro _ _ ⟨c, rfl, rfl⟩
      obtain ⟨z, hz, hz0, hz1⟩ := menu8 (k % 8) (by omega)
      have hm1 := Int.emod_nonneg c (by omega : z ≠ 0)
      have hm2 := Int.emod_lt_of_pos c hz0
      refine ⟨_, rfl, _, _, rfl, rfl, ⟨by decide, by decide, by decide⟩, _, _, rfl, rfl, _, _, rfl, ?_⟩
      refine ⟨_, rfl, _, rfl, _, rfl, _, _, rfl, rfl, pj, l, _, _, _, rfl, rfl, SqL.of upd_same, at_of (j := k % 8) (by omega) hz, _, _, rfl, rfl, hz0, ?_⟩
      refine ⟨_, rfl, _, _, rfl, rfl, mulx 13 6 (by decide) (by omega), _, _, rfl, rfl, _, _, rfl, rfl, _, _, rfl, rfl, ⟨by decide, by decide, by omega⟩, ?_⟩
      refine ⟨_, rfl, _, rfl, _, _, rfl, rfl, pj, l, _, _, _, rfl, rfl, SqL.of upd_same, at_of (j := k % 8) (by omega) hz, _, _, rfl, rfl, hz0, sz, fun p hp => ?_⟩
      refine q p _ (S1.free hp) (S1.trans (same_new hp _)) ⟨_, _, upd_same, ?_, Int.emod_nonneg _ (by omega), ?_⟩
      · split <;> omega
      · have := Int.emod_lt_of_pos ((c % z + 7919 * k + 5) ^ (Int.toNat 3)) hz0
        exact Int.lt_of_lt_of_le this (Int.le_trans hz1 (by decide))
def spTake : Sp := fun vs H Q _ => ∃ (p : Addr) (m : Int), vs = [.ref p, .int m] ∧ PotAt H p ∧ 1 ≤ m ∧ m < 2 ^ 200 ∧ ∀ (d : Int) H', 0 ≤ d → d < m → But p H H' → PotAt H' p → Q (.int d) H'
theorem k__law_draw (D : Df K mg "_law_draw" s__law_draw ["_law_pot_here", "_law_many"]) : Dn P w K mg base 1 "_law_draw" ["_law_pot_here", "_law_many"] spTake := by
  refine D.ok fun f fd F => okG0 F sc__law_draw (fun vs H Q E h => ?_) (fun cdv A outer s H vs Q E hr h => ⟨_, (pss_cons (ps_if (pt_cmpR op_gt (pe_ix (kk (K := K) (F := rIxL) (P := IxR _) ix_list) (pv 0) pe_int (fun _ _ => rfl)) pe_int (nomark _))
      (pss_cons (ps_set (i := 2) sc__law_draw.nd rfl (Or.inl rfl) (pe_op op_mod (pe_ix (kk (K := K) (F := rIxL) (P := IxR _) ix_list) (pv 0) pe_int (fun _ _ => rfl)) (pv 1)))
      (pss_cons (ps_asg (pe_op op_fdivW (pe_ix (kk (K := K) (F := rIxL) (P := IxR _) ix_list) (pv 0) pe_int (fun _ _ => rfl)) (pv 1)) (pg_sub (pv 0) pe_int set_list))
      (pss_one (ps_ret (pv 2)))))
      pss_nil)
    (pss_cons (ps_asg (pe_op op_mod (pe_op op_add (pe_op op_mulX (pe_ix (kk (K := K) (F := rIxL) (P := IxR _) ix_list) (pv 0) pe_int (fun _ _ => rfl)) pe_int) pe_int) pe_int) (pg_sub (pv 0) pe_int set_list))
    (pss_one (ps_ret (pe_op op_mod (pe_op op_fdivW (pe_op op_mod (pe_op op_mulX (pe_ix (kk (K := K) (F := rIxL) (P := IxR _) ix_list) (pv 0) pe_int (fun _ _ => rfl)) (pe_ix (kk (K := K) (F := rIxL) (P := IxR _) ix_list) (pv 0) pe_int (fun _ _ => rfl))) pe_int) pe_int) (pv 1)))))), ?_⟩)
  · obtain ⟨p, m, rfl, _⟩ := h; rfl
  · obtain ⟨p, m, rfl, ⟨a, b, hp, ha, hb, hb2⟩, hm, hm2, q⟩ := h
    refine ⟨_, rfl, p, _, _, _, rfl, rfl, SqL.of hp, at_of (j := 0) rfl rfl, _, _, rfl, rfl, _, rfl, ite2 (fun c => ?_) (fun c => ?_)⟩
    · refine ⟨_, rfl, p, _, _, _, rfl, rfl, SqL.of hp, at_of (j := 0) rfl rfl, _, rfl, _, _, rfl, rfl, by omega, ?_⟩
      refine ⟨_, rfl, p, _, _, _, rfl, rfl, SqL.of hp, at_of (j := 0) rfl rfl, _, rfl, _, _, rfl, rfl, ⟨by omega, Nat.lt_trans (log_lt (n := 200) (by decide) (by omega)) (by decide)⟩, _, rfl, p, _, _, _, rfl, rfl, hp, rfl, _, rfl, ?_⟩
      have h1 := Int.emod_nonneg a (by omega : m ≠ 0)
      have h2 := Int.emod_lt_of_pos a (by omega : 0 < m)
      have h3 := Int.ediv_nonneg ha (by omega : 0 ≤ m)
      exact q _ _ h1 h2 But.upd ⟨_, _, upd_same, h3, hb, hb2⟩
    · have hm1 := Int.emod_nonneg (b * 39373 + 7919) (by decide : (2147483629 : Int) ≠ 0)
      have hm3 := Int.emod_lt_of_pos (b * 39373 + 7919) (by decide : (0 : Int) < 2147483629)
      refine ⟨_, rfl, p, _, _, _, rfl, rfl, SqL.of hp, at_of (j := 1) rfl rfl, _, _, rfl, rfl, mulx 40 16 (by omega) (by decide), _, _, rfl, rfl, _, _, rfl, rfl, pj, ?_⟩
      refine ⟨_, rfl, p, _, _, _, rfl, rfl, hp, rfl, ?_⟩
      refine ⟨_, rfl, p, _, _, _, rfl, rfl, SqL.of upd_same, at_of (j := 1) rfl rfl, _, rfl, p, _, _, _, rfl, rfl, SqL.of upd_same, at_of (j := 1) rfl rfl, _, _, rfl, rfl, mulx 31 31 (by omega) (by omega), ?_⟩
      refine ⟨_, _, rfl, rfl, pj, _, _, rfl, rfl, ⟨by decide, by decide⟩, _, rfl, _, _, rfl, rfl, hm, ?_⟩
      exact q _ _ (Int.emod_nonneg _ (by omega)) (Int.emod_lt_of_pos _ (by omega)) But.upd ⟨_, _, upd_same, ha, hm1, by omega⟩
def spNumber : Sp := fun vs H Q _ => ∃ (p : Addr), vs = [.ref p] ∧ PotAt H p ∧ ∀ (n : Int) H', -(10 ^ 30) ≤ n → n ≤ 10 ^ 30 → But p H H' → PotAt H' p → Q (.int n) H'
theorem k__law_number (D : Df K mg "_law_number" s__law_number ["_law_pot_here"]) (D__law_draw : Dn P w K mg base 1 "_law_draw" ["_law_pot_here", "_law_many"] spTake) : Dn P w K mg base 2 "_law_number" ["_law_pot_here"] spNumber := by
  refine D.ok fun f fd F => okG0 F sc__law_number (fun vs H Q E h => ?_) (fun cdv A outer s H vs Q E hr h => ⟨_, (pss_cons (ps_set (i := 1) sc__law_number.nd rfl (Or.inl rfl) (pe_cD D__law_draw (hr.less (by decide)) rfl (pa_cons (pv 0) (pa_cons pe_int pa_nil))))
    (pss_cons (ps_if (pt_cmpR op_eq (pv 1) pe_int (nomark _))
      (pss_cons (ps_set (i := 2) sc__law_number.nd rfl (Or.inl rfl) pe_int)
      (pss_cons (ps_for PassesOwn.never rfl (pi_range1 (by rfl) B.range_ (pa_cons pe_int pa_nil)) (pg_name (i := 3) sc__law_number.nd rfl (Or.inl rfl))
        (pss_one (ps_set (i := 2) sc__law_number.nd rfl (Or.inl rfl) (pe_op op_add (pe_op op_mulX (pv 2) (pe_op op_pow pe_int pe_int)) (pe_cD D__law_draw (hr.less (by decide)) rfl (pa_cons (pv 0) (pa_cons (pe_op op_pow pe_int pe_int) pa_nil)))))))
      (pss_one (ps_ret (pe_op op_mulX (pe_op op_mod (pv 2) (pe_op op_sub (pe_op op_pow pe_int pe_int) pe_int)) (pe_op op_sub pe_int (pe_op op_mulX pe_int (pe_cD D__law_draw (hr.less (by decide)) rfl (pa_cons (pv 0) (pa_cons pe_int pa_nil))))))))))
      pss_nil)
    (pss_one (ps_ret (pe_op op_sub (pe_cD D__law_draw (hr.less (by decide)) rfl (pa_cons (pv 0) (pa_cons (pe_ix (kk (K := K) (F := rIxL) (P := IxR _) ix_list) (pe_lst (pa_cons pe_int (pa_cons pe_int (pa_cons pe_int pa_nil)))) (pe_op op_sub (pv 1) pe_int) (fun _ _ => rfl)) pa_nil))) (pe_ix (kk (K := K) (F := rIxL) (P := IxR _) ix_list) (pe_lst (pa_cons pe_int (pa_cons pe_int (pa_cons pe_int pa_nil)))) (pe_op op_sub (pv 1) pe_int) (fun _ _ => rfl))))))), ?_⟩)
  · obtain ⟨p, rfl, _⟩ := h; rfl
  · obtain ⟨p, rfl, hp, q⟩ := h
    refine ⟨_, rfl, p, 4, rfl, hp, by decide, by decide, fun d H1 d0 d6 b1 p1 => ?_⟩
    refine ⟨_, rfl, rfl, _, rfl, ite2 (fun c => ?_) (fun c => ?_)⟩
    · refine ⟨_, rfl, by decide, by decide, ?_⟩
      refine for_range (lo := 0) (n := 5) (fun i σ H2 => ∃ (f : Int) (v : Option V), σ = [some (.ref p), some (.int d), some (.int f), v] ∧ But p H H2 ∧ PotAt H2 p ∧ 0 ≤ f ∧ f < 10 ^ (6 * i)) ⟨0, none, rfl, b1, p1, by decide, by decide⟩ ?_ ?_
      · rintro i σ H2 hi ⟨f, v, rfl, b2, p2, f0, f1⟩
        have f2 : f < 10 ^ 24 := Int.lt_of_lt_of_le f1 ((by decide : ∀ i, i < 5 → (10 : Int) ^ (6 * i) ≤ 10 ^ 24) i hi)
        refine ⟨_, rfl, _, _, rfl, rfl, ⟨by decide, by decide, by decide⟩, _, _, rfl, rfl, mulx 90 20 (by omega) (by decide), ?_⟩
        refine ⟨_, rfl, _, _, rfl, rfl, ⟨by decide, by decide, by decide⟩, p, _, rfl, p2, by decide, by decide, fun e H3 e0 e1 b3 p3 => ⟨_, _, rfl, rfl, ?_⟩⟩
        refine ⟨_, _, rfl, b2.trans b3, p3, ?_, ?_⟩
        · show 0 ≤ f * 10 ^ 6 + e; omega
        · show f * 10 ^ 6 + e < 10 ^ (6 * (i + 1))
          have e1' : e < 10 ^ 6 := e1
          have : (10 : Int) ^ (6 * (i + 1)) = 10 ^ (6 * i) * 10 ^ 6 := by rw [Nat.mul_add, Int.pow_add]
          rw [this]
          omega
      · rintro σ H2 ⟨f, v, rfl, b2, p2, f0, f1⟩
        refine ⟨_, rfl, _, _, rfl, rfl, ⟨by decide, by decide, by decide⟩, _, _, rfl, rfl, _, _, rfl, rfl, pj, ?_⟩
        have g1 := Int.emod_nonneg f (by decide : (10 ^ Int.toNat 30 - 20 : Int) ≠ 0)
        have g2 := Int.emod_lt_of_pos f (by decide : (0 : Int) < 10 ^ Int.toNat 30 - 20)
        have g3 : (10 ^ Int.toNat 30 - 20 : Int) ≤ 10 ^ 30 := by decide
        refine ⟨_, rfl, p, 2, rfl, p2, by decide, by decide, fun c H3 c0 c2 b3 p3 => ⟨_, _, rfl, rfl, mulx 2 2 (by decide) (by omega), _, _, rfl, rfl, _, _, rfl, rfl, mulx 100 2 (by omega) (by omega), ?_⟩⟩
        have : c = 0 ∨ c = 1 := by omega
        refine q _ _ ?_ ?_ (b2.trans b3) p3
        · rcases this with rfl | rfl <;> omega
        · rcases this with rfl | rfl <;> omega
    · have dn : d ≠ 0 := fun z => by subst z; exact c rfl
      obtain ⟨j, rfl⟩ : ∃ j : Nat, d = (j : Int) + 1 := ⟨(d - 1).toNat, by omega⟩
      obtain ⟨z, hz, z1⟩ := at3 (x0 := 3) (x1 := 19) (x2 := 199) j (by omega)
      obtain ⟨y, hy, y1⟩ := at3 (x0 := 1) (x1 := 9) (x2 := 99) j (by omega)
      refine ⟨_, rfl, sz, fun l hl => ⟨_, rfl, _, _, rfl, rfl, l, _, _, _, rfl, rfl, SqL.of upd_same, at_of (j := j) (by omega) hz, ?_⟩⟩
      refine ⟨p, z, rfl, p1.same (same_new hl _), by omega, Int.lt_of_le_of_lt (b := 199) (by omega) (by decide), fun e H2 e0 e1 b2 p2 => ?_⟩
      refine ⟨sz, fun m hm => ⟨_, rfl, _, _, rfl, rfl, m, _, _, _, rfl, rfl, SqL.of upd_same, at_of (j := j) (by omega) hy, _, _, rfl, rfl, ?_⟩⟩
      exact q _ _ (by omega) (by omega) (b1.trans ((same_but (same_new hl _)).trans (b2.trans (same_but (same_new hm _))))) (p2.same (same_new hm _))
def spDeed : Sp := fun vs H Q _ => ∃ (p : Addr), vs = [.ref p] ∧ PotAt H p ∧ ∀ (a : Addr) (d : Dd) H', But p H H' → PotAt H' p → H a = none → H' a = some (.tup d.vs) → d.In (10 ^ 31) → d.Ok → Q (.ref a) H'
theorem k__law_deed (D : Df K mg "_law_deed" s__law_deed ["_law_pot_here"]) (D__law_draw : Dn P w K mg base 1 "_law_draw" ["_law_pot_here", "_law_many"] spTake) (D__law_number : Dn P w K mg base 2 "_law_number" ["_law_pot_here"] spNumber) : Dn P w K mg base 3 "_law_deed" ["_law_pot_here"] spDeed := by
  refine D.ok fun f fd F => okG0 F sc__law_deed (fun vs H Q E h => ?_) (fun cdv A outer s H vs Q E hr h => ⟨_, (pss_cons (ps_set (i := 1) sc__law_deed.nd rfl (Or.inl rfl) (pe_cD D__law_draw (hr.less (by decide)) rfl (pa_cons (pv 0) (pa_cons pe_int pa_nil))))
    (pss_cons (ps_set (i := 2) sc__law_deed.nd rfl (Or.inl rfl) (pe_cD D__law_number (hr.less (by decide)) rfl (pa_cons (pv 0) pa_nil)))
    (pss_cons (ps_set (i := 3) sc__law_deed.nd rfl (Or.inl rfl) (pe_cD D__law_number (hr.less (by decide)) rfl (pa_cons (pv 0) pa_nil)))
    (pss_cons (ps_set (i := 4) sc__law_deed.nd rfl (Or.inl rfl) (pe_cD D__law_number (hr.less (by decide)) rfl (pa_cons (pv 0) pa_nil)))
    (pss_cons (ps_if (pt_cmpR op_lt (pv 1) pe_int (nomark _))
      (pss_one (ps_ret (pe_tup (pa_cons (pe_op op_mulX (pv 2) (pv 1)) (pa_cons pe_non (pa_cons pe_non pa_nil))))))
      pss_nil)
    (pss_cons (ps_if (PW.pt (pw_or (pt_cmpR op_eq (pv 1) pe_int (nomark _)) (pw_or1 (pt_cmpR op_eq (pv 3) (pv 4) (nomark _)))))
      (pss_one (ps_ret (pe_tup (pa_cons pe_int (pa_cons (pv 3) (pa_cons (pv 3) pa_nil))))))
      pss_nil)
    (pss_cons (ps_if (pt_cmpR op_eq (pv 1) pe_int (nomark _))
      (pss_one (ps_ret (pe_tup (pa_cons (pv 2) (pa_cons (pv 3) (pa_cons pe_non pa_nil))))))
      pss_nil)
    (pss_cons (ps_if (pt_cmpR op_eq (pv 1) pe_int (nomark _))
      (pss_one (ps_ret (pe_tup (pa_cons (pv 2) (pa_cons pe_non (pa_cons (pv 3) pa_nil))))))
      pss_nil)
    (pss_one (ps_ret (pe_tup (pa_cons (pv 2) (pa_cons (pe_callB (call_min2 rfl) (by rfl) B.min_ (by decide +kernel) (pa_cons (pv 3) (pa_cons (pv 4) pa_nil))) (pa_cons (pe_callB (call_max2 rfl) (by rfl) B.max_ (by decide +kernel) (pa_cons (pv 3) (pa_cons (pv 4) pa_nil))) pa_nil)))))))))))))), ?_⟩)
  · obtain ⟨p, rfl, _⟩ := h; rfl
  · obtain ⟨p, rfl, hp, q⟩ := h
    refine ⟨_, rfl, p, 6, rfl, hp, by decide, by decide, fun road H1 d0 d7 b1 p1 => ?_⟩
    refine ⟨_, rfl, p, rfl, p1, fun n H2 n0 n1 b2 p2 => ⟨_, rfl, p, rfl, p2, fun one H3 o0 o1 b3 p3 => ⟨_, rfl, p, rfl, p3, fun other H4 r0 r1 b4 p4 => ?_⟩⟩⟩
    have b14 : But p H H4 := b1.trans (b2.trans (b3.trans b4))
    have fin : ∀ (d : Dd) (a : Addr), H4 a = none → d.In (10 ^ 31) → d.Ok → Q (.ref a) (upd H4 a (.tup d.vs)) := fun d a ha hi ho =>
      q a d _ (b14.trans (same_but (same_new ha _))) (p4.same (same_new ha _)) (b14.free (pot_ne p4 ha) ha) upd_same hi ho
    refine ⟨_, rfl, _, _, rfl, rfl, _, rfl, ite2 (fun c => ?_) (fun c => ?_)⟩
    · have c' : road < 2 := of_decide_eq_true c
      refine ⟨_, rfl, _, rfl, _, _, rfl, rfl, mulx 100 2 (by omega) (by omega), sz, fun a ha => fin ⟨_, none, none⟩ a ha (in_mk ?_ ?_ in_none in_none) (fun _ _ h => nomatch h)⟩
      · have : road = 0 ∨ road = 1 := by omega
        rcases this with rfl | rfl <;> omega
      · have : road = 0 ∨ road = 1 := by omega
        rcases this with rfl | rfl <;> omega
    have mm : (∃ y, -(10 ^ 31) ≤ y ∧ y ≤ 10 ^ 31 ∧ y = one) := ⟨one, by omega, by omega, rfl⟩
    by_cases c2 : road = 2
    · subst c2
      refine ⟨_, rfl, rfl, _, rfl, iteT (iteT ⟨_, rfl, _, rfl, sz, fun a ha => fin ⟨0, some one, some one⟩ a ha (in_mk (by decide) (by decide) (in_some (by omega) (by omega)) (in_some (by omega) (by omega))) fun l h e1 e2 => ?_⟩)⟩
      cases e1; cases e2
      exact .inr ⟨rfl, rfl⟩
    refine ⟨_, rfl, rfl, _, rfl, ifF (decide_eq_false fun z => c2 (V.int.inj z)) ⟨_, rfl, _, rfl, rfl, _, rfl, ite2 (fun c3 => ?_) (fun c3 => ?_)⟩⟩
    · refine ⟨_, rfl, _, rfl, sz, fun a ha => fin ⟨0, some one, some one⟩ a ha (in_mk (by decide) (by decide) (in_some (by omega) (by omega)) (in_some (by omega) (by omega))) fun l h e1 e2 => ?_⟩
      cases e1; cases e2
      exact .inr ⟨rfl, rfl⟩
    have c3' : one ≠ other := fun z => c3 (decide_eq_true (congrArg V.int z))
    refine ⟨_, rfl, rfl, _, rfl, ite2 (fun c4 => ?_) (fun c4 => ?_)⟩
    · exact ⟨_, rfl, _, rfl, sz, fun a ha => fin ⟨n, some one, none⟩ a ha (in_mk (by omega) (by omega) (in_some (by omega) (by omega)) in_none) (fun _ _ _ h => nomatch h)⟩
    refine ⟨_, rfl, rfl, _, rfl, ite2 (fun c5 => ?_) (fun c5 => ?_)⟩
    · exact ⟨_, rfl, _, rfl, sz, fun a ha => fin ⟨n, none, some one⟩ a ha (in_mk (by omega) (by omega) in_none (in_some (by omega) (by omega))) (fun _ _ h => nomatch h)⟩
    refine ⟨_, rfl, _, rfl, _, rfl, _, _, rfl, _, rfl, _, rfl, _, _, rfl, sz, fun a ha => fin ⟨n, some _, some _⟩ a ha (in_mk (by omega) (by omega) (in_some ?_ ?_) (in_some ?_ ?_)) ?_⟩
    · split <;> omega
    · split <;> omega
    · split <;> omega
    · split <;> omega
    · intro l h e1 e2
      cases e1; cases e2
      left
      split <;> split <;> omega
def spBoard : Sp := fun vs H Q _ => ∃ (p : Addr), vs = [.ref p] ∧ PotAt H p ∧ ∀ (b : Addr) (bs : List Int) H', But p H H' → PotAt H' p → H b = none → BoardAt H' b bs → Wi (10 ^ 30) bs → Q (.ref b) H'
theorem k__law_board (D : Df K mg "_law_board" s__law_board ["_law_pot_here"]) (D__law_draw : Dn P w K mg base 1 "_law_draw" ["_law_pot_here", "_law_many"] spTake) (D__law_number : Dn P w K mg base 2 "_law_number" ["_law_pot_here"] spNumber) : Dn P w K mg base 3 "_law_board" ["_law_pot_here"] spBoard := by
  refine D.ok fun f fd F => okG0 F sc__law_board (fun vs H Q E h => ?_) (fun cdv A outer s H vs Q E hr h => ⟨_, (pss_one (ps_ret (pe_callTy (tupOfK (K := K)) (by rfl) B.tuple_ (by decide +kernel) (pa_cons (pe_lc (own := [("_law_k", 1)]) (g := gName 1) (tt := tYes) rfl sc__law_board.nd (pi_range1 (by rfl) B.range_ (pa_cons (pe_op op_add pe_int (pe_cD D__law_draw (hr.less (by decide)) rfl (pa_cons (pv 0) (pa_cons pe_int pa_nil)))) pa_nil)) (blkOk_by (own := [("_law_k", 1)]) (N := ["_law_pot_here", "_law_k"]) (sc := defScope s__law_board) (by decide +kernel)) (fun _ _ _ _ _ => (pg_name (i := 1) sc__law_board.nd rfl (Or.inl rfl))) (fun _ _ _ _ _ => pts_nil) (fun _ _ _ _ _ => (pe_cD D__law_number (hr.less (by decide)) rfl (pa_cons (pv 0) pa_nil)))) pa_nil)))), ?_⟩)
  · obtain ⟨p, rfl, _⟩ := h; rfl
  · obtain ⟨p, rfl, hp, q⟩ := h
    refine ⟨_, rfl, p, 16, rfl, hp, by decide, by decide, fun m H1 m0 m1 b1 p1 => ⟨_, _, rfl, rfl, _, rfl, by omega, by omega, fun D hD => ?_⟩⟩
    have np := pot_ne p1 hD
    refine lc_range (lo := 0) (n := (1 + m).toNat) (fun i H2 => ∃ bs : List Int, But p H1 H2 ∧ PotAt H2 p ∧ H2 D = some (.lst (bs.map V.int)) ∧ bs.length = i ∧ Wi (10 ^ 30) bs) ⟨[], same_but (same_new hD _), p1.same (same_new hD _), upd_same, rfl, fun x hx => nomatch hx⟩ ?_ ?_
    · rintro i H2 hi ⟨bs, b2, p2, hD2, hl, hw⟩
      refine ⟨rfl, ?_⟩
      refine ⟨_, rfl, p, rfl, p2, fun x H3 x0 x1 b3 p3 => ?_⟩
      have hD3 := b3 _ _ np hD2
      refine ⟨_, hD3, small1000 (by rw [List.length_map]; omega), bs ++ [x], but_upd hD (b2.trans b3), p3.upd np.symm, by rw [upd_same, List.map_append] <;> rfl, by rw [List.length_append, hl] <;> rfl, ?_⟩
      exact hw.snoc x0 x1
    · rintro H2 ⟨bs, b2, p2, hD2, hl, hw⟩
      refine ⟨D, _, rfl, .inl ⟨SqL.of hD2, fun t ht => ?_⟩⟩
      have S := same_new ht (.tup (bs.map V.int))
      have B := b1.trans (b2.trans (same_but S))
      exact q t bs _ B (p2.same S) ((b1.trans b2).free (pot_ne p2 ht) ht) ⟨upd_same, by omega, by omega⟩ hw
def spAsks : Sp := fun vs H Q _ => ∃ (p b : Addr) (bs : List Int) (mx : Int), vs = [.ref p, .ref b, .int mx] ∧ 0 ≤ mx ∧ mx ≤ 40 ∧ PotAt H p ∧ BoardAt H b bs ∧ ∀ (k : Addr) (as : List Ak) H', But p H H' → PotAt H' p → H k = none → AsksAt H' k as bs.length → Q (.ref k) H'
theorem k__law_asks (D : Df K mg "_law_asks" s__law_asks ["_law_pot_here", "_law_board_here", "_law_most"]) (D__law_draw : Dn P w K mg base 1 "_law_draw" ["_law_pot_here", "_law_many"] spTake) (D__law_deed : Dn P w K mg base 3 "_law_deed" ["_law_pot_here"] spDeed) : Dn P w K mg base 4 "_law_asks" ["_law_pot_here", "_law_board_here", "_law_most"] spAsks := by
  refine D.ok fun f fd F => okG0 F sc__law_asks (fun vs H Q E h => ?_) (fun cdv A outer s H vs Q E hr h => ⟨_, (pss_cons (ps_set (i := 3) sc__law_asks.nd rfl (Or.inl rfl) (pe_cD D__law_draw (hr.less (by decide)) rfl (pa_cons (pv 0) (pa_cons pe_int pa_nil))))
    (C8.pss_cut (ps_if (pt_cmpR op_eq (pv 3) pe_int (nomark _))
      (pss_one (ps_set (i := 3) sc__law_asks.nd rfl (Or.inl rfl) (pe_cD D__law_draw (hr.less (by decide)) rfl (pa_cons (pv 0) (pa_cons (pe_op op_add (pv 2) pe_int) pa_nil)))))
      pss_nil)
    (pss_cons (ps_set (i := 4) sc__law_asks.nd rfl (Or.inl rfl) (pe_op op_add pe_int (pe_cD D__law_draw (hr.less (by decide)) rfl (pa_cons (pv 0) (pa_cons (pe_callB (lenK (K := K)) (by rfl) B.len_ (by decide +kernel) (pa_cons (pv 1) pa_nil)) pa_nil)))))
    (pss_cons (ps_set (i := 5) sc__law_asks.nd rfl (Or.inl rfl) (pe_lst pa_nil))
    (pss_cons (ps_for PassesOwn.never rfl (pi_range1 (by rfl) B.range_ (pa_cons (pv 3) pa_nil)) (pg_name (i := 6) sc__law_asks.nd rfl (Or.inl rfl))
      (pss_one (ps_expr (kk (K := K) (F := fun K => tBM K "list" _ _ _) (P := PE _ _) (pe_bm PySem.F.plainAttrs_list PySem.F.slot_list_append PySem.F.type_list_append mt_append (pv 5) (pa_cons (pe_tup (pa_cons (pe_cD D__law_draw (hr.less (by decide)) rfl (pa_cons (pv 0) (pa_cons pe_int pa_nil))) (pa_cons (pe_cD D__law_draw (hr.less (by decide)) rfl (pa_cons (pv 0) (pa_cons (pv 4) pa_nil))) (pa_cons (pe_cD D__law_deed (hr.less (by decide)) rfl (pa_cons (pv 0) pa_nil)) pa_nil)))) pa_nil))))))
    (pss_one (ps_ret (pe_callTy (tupOfK (K := K)) (by rfl) B.tuple_ (by decide +kernel) (pa_cons (pv 5) pa_nil))))))))), ?_⟩)
  · obtain ⟨p, b, bs, mx, rfl, _⟩ := h; rfl
  · obtain ⟨p, b, bs, mx, rfl, mx0, mx40, hp, hb, q⟩ := h
    have nb : b ≠ p := fun z => by obtain ⟨_, _, h1, _⟩ := hp; have h2 := hb.1; rw [z, h1] at h2; cases h2
    refine ⟨_, rfl, p, 8, rfl, hp, by decide, by decide, fun m H1 m0 m1 b1 p1 => ?_⟩
    refine ⟨fun σ H2 => ∃ m : Int, σ = [some (.ref p), some (.ref b), some (.int mx), some (.int m), none, none, none] ∧ But p H H2 ∧ PotAt H2 p ∧ 0 ≤ m ∧ m ≤ 40, ?_, ?_⟩
    · refine ⟨_, rfl, rfl, _, rfl, ite2 (fun c => ?_) (fun c => ?_)⟩
      · exact ⟨_, rfl, _, rfl, _, _, rfl, rfl, p, _, rfl, p1, by omega, Int.lt_of_le_of_lt (b := 41) (by omega) (by decide), fun e H2 e0 e1 b2 p2 => ⟨e, rfl, b1.trans b2, p2, e0, by omega⟩⟩
      · exact ⟨m, rfl, b1, p1, m0, by omega⟩
    clear b1 p1 m0 m1
    rintro _ H2 ⟨m, rfl, b2, p2, m0, m1⟩
    have hb2 : BoardAt H2 b bs := ⟨b2 _ _ nb hb.1, hb.2⟩
    refine ⟨_, rfl, _, rfl, b, _, rfl, .inr (SqT.of hb2.1), p, _, rfl, p2, by rw [List.length_map]; have := hb.2; omega, Int.lt_of_le_of_lt (b := 16) (by rw [List.length_map]; have := hb.2; omega) (by decide), fun near H3 n0 n1 b3 p3 => ⟨_, _, rfl, rfl, ?_⟩⟩
    rw [List.length_map] at n1
    refine ⟨sz, fun L hL => ?_⟩
    have npL := pot_ne p3 hL
    have b13 := b2.trans b3
    refine ⟨_, rfl, _, rfl, by omega, by omega, ?_⟩
    refine for_range (lo := 0) (n := m.toNat) (fun i σ H4 => ∃ (as : List Ak) (v : Option V), σ = [some (.ref p), some (.ref b), some (.int mx), some (.int m), some (.int (1 + near)), some (.ref L), v] ∧ But p H3 H4 ∧ PotAt H4 p ∧ H4 L = some (.lst (as.map fun x => .ref x.a)) ∧ as.length = i ∧ ∀ x ∈ as, x.at_ H4 bs.length)
      ⟨[], none, rfl, same_but (same_new hL _), p3.same (same_new hL _), upd_same, rfl, fun x hx => nomatch hx⟩ ?_ ?_
    · rintro i σ H4 hi ⟨as, v, rfl, b4, p4, hL4, hl, hw⟩
      have hL3 : ∀ {H' : Hp}, But p H4 H' → H' L = some (.lst (as.map fun x => .ref x.a)) := fun b => b _ _ npL hL4
      refine ⟨_, rfl, .inl ⟨rfl, _, SqL.of hL4⟩, _, rfl, p, 16, rfl, p4, by decide, by decide, fun hand H5 h0 h1 b5 p5 => ?_⟩
      refine ⟨_, rfl, _, rfl, p, _, rfl, p5, by omega, Int.lt_of_le_of_lt (b := 16) (by have := hb2.2; omega) (by decide), fun box H6 x0 x1 b6 p6 => ?_⟩
      refine ⟨_, rfl, p, rfl, p6, fun da d H7 b7 p7 nda hda hdi hdo => ⟨sz, fun a ha => ?_⟩⟩
      have B7 := b5.trans (b6.trans b7)
      obtain ⟨bx, rfl⟩ : ∃ n : Nat, box = (n : Int) := ⟨box.toNat, by omega⟩
      have S8 := same_new ha (.tup [.int hand, .int bx, .ref da])
      have nLa : L ≠ a := ne_of_none (hL3 B7) ha
      have nLda : da ≠ L := fun z => by rw [z] at hda; rw [hL3 B7] at hda; cases hda
      obtain ⟨_, _, hp4, _⟩ := p4
      refine ⟨L, _, _, rfl, rfl, S8 _ _ (hL3 B7), small1000 (by rw [List.length_map]; omega), as ++ [⟨a, hand, bx, da, d⟩], _, rfl, but_upd hL (b4.trans (B7.trans (same_but S8))), (p7.same S8).upd npL.symm, by rw [upd_same, List.map_append] <;> rfl, by rw [List.length_append, hl] <;> rfl, fun x hx => ?_⟩
      rcases List.mem_append.mp hx with h3 | h3
      · exact (((hw x h3).but B7 hp4).same S8).but But.upd (S8 _ _ (hL3 B7))
      · have := List.mem_singleton.mp h3
        subst this
        exact ⟨by rw [upd_ne nLa.symm]; exact upd_same, ⟨by rw [upd_ne nLda]; exact S8 _ _ hda, In.le hdi (by decide), hdo⟩, h0, h1, show bx < _ by omega⟩
    · rintro σ H4 ⟨as, v, rfl, b4, p4, hL4, hl, hw⟩
      refine ⟨_, rfl, L, _, rfl, .inl ⟨SqL.of hL4, fun t ht => ?_⟩⟩
      have S := same_new ht (.tup (as.map fun x => .ref x.a))
      exact q t as _ (b13.trans (b4.trans (same_but S))) (p4.same S) ((b13.trans b4).free (pot_ne p4 ht) ht) ⟨upd_same, by omega, fun x hx => (hw x hx).same S⟩
omit B in
theorem wg_const {d : PyData} {n c b : Nat} (h1 : d.depth ≤ 2) (h2 : wt d ≤ 30000) (h3 : ib d ≤ 10 ^ 29) (hb : 10 ^ 29 ≤ b) : Wg d (n + 2) (c + 30000) (b + 1) := ⟨by omega, by omega, by omega⟩
def spOther (K : PySem.W.Frag) : Sp := fun vs H Q _ => ∃ (p : Addr) (v : V) (d : PyData) (n c b : Nat), vs = [.ref p, v] ∧ PotAt H p ∧ Th K p H v d ∧ Wg d n c b ∧ 10 ^ 29 ≤ b ∧ b ≤ 10 ^ 90 ∧
  ∀ v' d' H', But p H H' → PotAt H' p → Th K p H' v' d' → Wg d' (n + 2) (c + 30000) (b + 1) → Q v' H'
theorem k__law_other (D : Df K mg "_law_other" s__law_other ["_law_pot_here", "_law_thing"]) (D__law_draw : Dn P w K mg base 1 "_law_draw" ["_law_pot_here", "_law_many"] spTake) (D__law_is_whole : Dn P w K mg base 1 "_law_is_whole" ["_law_thing"] (spWhT2 K)) : Dn P w K mg base 3 "_law_other" ["_law_pot_here", "_law_thing"] (spOther K) := by
  refine D.ok fun f fd F => okG0 F sc__law_other (fun vs H Q E h => ?_) (fun cdv A outer s H vs Q E hr h => ⟨_, (pss_cons (ps_set (i := 2) sc__law_other.nd rfl (Or.inl rfl) (pe_lstS (pa_cons pe_non (pa_cons pe_bl (pa_cons pe_bl (pa_cons pe_str (pa_cons pe_str (pa_cons (pe_tup pa_nil) (pa_cons (pe_tup (pa_cons pe_int pa_nil)) (pa_cons (pe_lstS pa_nil) (pa_cons pe_dnewK (pa_cons (pe_un un_neg pe_int) (pa_cons pe_int (pa_cons pe_int (pa_cons pe_int (pa_cons pe_int (pa_cons pe_int (pa_cons (pe_op op_pow pe_int pe_int) (pa_cons (pe_un un_neg (pe_op op_pow pe_int pe_int)) (pa_cons (pe_tup (pa_cons pe_int (pa_cons pe_non (pa_cons pe_non pa_nil)))) pa_nil))))))))))))))))))))
    (pss_cons (ps_set (i := 2) sc__law_other.nd rfl (Or.inl rfl) (pe_op op_cat (pv 2) (pe_lstS (pa_cons (pe_tup (pa_cons pe_int (pa_cons pe_int (pa_cons pe_int pa_nil)))) (pa_cons (pe_tup (pa_cons pe_int (pa_cons pe_int (pa_cons pe_int pa_nil)))) (pa_cons (pe_tup (pa_cons pe_int (pa_cons pe_int (pa_cons pe_int pa_nil)))) (pa_cons (pe_tup (pa_cons pe_int (pa_cons pe_int (pa_cons (pe_tup (pa_cons pe_int (pa_cons pe_non (pa_cons pe_non pa_nil)))) pa_nil)))) (pa_cons (pe_lstS (pa_cons (pv 1) pa_nil)) (pa_cons (pe_tup (pa_cons (pv 1) pa_nil)) (pa_cons (pe_disp (pps_cons pe_int (pv 1) pps_nil) (by rfl) (by rfl) (fun z => by cases z) (by decide)) pa_nil))))))))))
    (pss_cons (ps_if (pt_val (pe_cD D__law_is_whole (hr.less (by decide)) rfl (pa_cons (pv 1) pa_nil)))
      (pss_one (ps_set (i := 2) sc__law_other.nd rfl (Or.inl rfl) (pe_op op_cat (pv 2) (pe_op op_rep (pe_lstS (pa_cons (pe_op op_add (pv 1) pe_int) (pa_cons (pe_op op_sub (pv 1) pe_int) (pa_cons (pe_op op_sub pe_int (pv 1)) (pa_cons (pe_callTy call_str_int (by rfl) B.str_ (by decide +kernel) (pa_cons (pv 1) pa_nil)) pa_nil))))) pe_int))))
      pss_nil)
    (pss_one (ps_ret (pe_ix (kk (K := K) (F := rIxL) (P := IxR _) ix_list) (pv 2) (pe_cD D__law_draw (hr.less (by decide)) rfl (pa_cons (pv 0) (pa_cons (pe_callB (lenK (K := K)) (by rfl) B.len_ (by decide +kernel) (pa_cons (pv 2) pa_nil)) pa_nil))) (fun _ _ => rfl))))))), ?_⟩)
  · obtain ⟨p, v, d, n, c, b, rfl, _⟩ := h; rfl
  · obtain ⟨p, v, d, n, c, b, rfl, hp, hd, hw, b1, b2, q⟩ := h
    have cp : CPow 10 29 := ⟨by decide, by decide, by decide⟩
    try walk_at "go"
    intro t1 ht1
    generalize eH1 : upd _ t1 _ = H1
    have SH1 := newS eH1 ht1
    have ot1 := newO eH1
    try walk_at "go"
    intro t2 ht2
    generalize eH2 : upd _ t2 _ = H2
    have SH2 := newS eH2 ht2
    have ot2 := newO eH2
    try walk_at "go"
    intro t3 ht3
    generalize eH3 : upd _ t3 _ = H3
    have SH3 := newS eH3 ht3
    have ot3 := newO eH3
    intro s3
    try walk_at "go"
    intro t4 ht4
    generalize eH4 : upd _ t4 _ = H4
    have SH4 := newS eH4 ht4
    have ot4 := newO eH4
    try walk_at "go"
    intro t5 ht5
    generalize eH5 : upd _ t5 _ = H5
    have SH5 := newS eH5 ht5
    have ot5 := newO eH5
    try walk_at "go"
    intro L1 hL1
    generalize eH6 : upd _ L1 _ = H6
    have SH6 := newS eH6 hL1
    have oL1 := newO eH6
    intro s6
    try walk_at "go"
    intro u1 hu1
    generalize eH7 : upd _ u1 _ = H7
    have SH7 := newS eH7 hu1
    have ou1 := newO eH7
    try walk_at "go"
    intro u2 hu2
    generalize eH8 : upd _ u2 _ = H8
    have SH8 := newS eH8 hu2
    have ou2 := newO eH8
    try walk_at "go"
    intro u3 hu3
    generalize eH9 : upd _ u3 _ = H9
    have SH9 := newS eH9 hu3
    have ou3 := newO eH9
    try walk_at "go"
    intro u0 hu0
    generalize eH10 : upd _ u0 _ = H10
    have SH10 := newS eH10 hu0
    have ou0 := newO eH10
    try walk_at "go"
    intro u4 hu4
    generalize eH11 : upd _ u4 _ = H11
    have SH11 := newS eH11 hu4
    have ou4 := newO eH11
    try walk_at "go"
    intro u5 hu5
    generalize eH12 : upd _ u5 _ = H12
    have SH12 := newS eH12 hu5
    have ou5 := newO eH12
    intro s12
    try walk_at "go"
    intro u6 hu6
    generalize eH13 : upd _ u6 _ = H13
    have SH13 := newS eH13 hu6
    have ou6 := newO eH13
    try walk_at "go"
    intro u7 hu7
    generalize eH14 : upd _ u7 _ = H14
    have SH14 := newS eH14 hu7
    have ou7 := newO eH14
    try walk_at "go"
    refine ⟨(show _ = List.map (fun kv => (kV kv.1, kv.2)) [((Sum.inl 0 : Key), v)] from rfl), by show 1 ≤ 15; decide, ?_⟩
    generalize eH15 : upd H14 u7 (HO.dK (mergeK [] [((Sum.inl 0 : Key), v)])) = H15
    have S1315 : Same H13 H15 := but_same hu7 SH14 (eH15 ▸ But.upd)
    have ou7' : H15 u7 = some (.dK [(Sum.inl 0, v)]) := by rw [← eH15]; exact upd_same
    clear ou7
    have S16 : Same H1 H6 := SH2.trans (SH3.trans (SH4.trans (SH5.trans SH6)))
    have S613 : Same H6 H13 := SH7.trans (SH8.trans (SH9.trans (SH10.trans (SH11.trans (SH12.trans SH13)))))
    have oL1' := S1315 _ _ (S613 _ _ oL1)
    try walk_at "go"
    intro L2 hL2
    generalize eH16 : upd _ L2 _ = H16
    have SH16 := newS eH16 hL2
    have oL2 := newO eH16
    intro s16
    have oL1'' := SH16 _ _ oL1'
    try walk_at "go"
    intro L3 hL3
    generalize eH17 : upd _ L3 _ = H17
    have SH17 := newS eH17 hL3
    have oL3 := newO eH17
    have S015 : Same H H15 := SH1.trans (S16.trans (S613.trans S1315))
    have S017 : Same H H17 := S015.trans (SH16.trans SH17)
    have hd17 := hd.same S017
    have p17 := hp.same S017
    have p2 := hp.same (SH1.trans SH2)
    have p11 := hp.same (SH1.trans (S16.trans (SH7.trans (SH8.trans (SH9.trans (SH10.trans SH11))))))
    have npt3 : t3 ≠ p := pot_ne p2 ht3
    have npu5 : u5 ≠ p := pot_ne p11 hu5
    have S1517 := SH16.trans SH17
    have g1 := (S16.trans (S613.trans (S1315.trans S1517))) _ _ ot1
    have g2 := (SH3.trans (SH4.trans (SH5.trans (SH6.trans (S613.trans (S1315.trans S1517)))))) _ _ ot2
    have g3 := (SH4.trans (SH5.trans (SH6.trans (S613.trans (S1315.trans S1517))))) _ _ ot3
    have g4 := (SH5.trans (SH6.trans (S613.trans (S1315.trans S1517)))) _ _ ot4
    have g5 := (SH6.trans (S613.trans (S1315.trans S1517))) _ _ ot5
    have k1 := (SH8.trans (SH9.trans (SH10.trans (SH11.trans (SH12.trans (SH13.trans (S1315.trans S1517))))))) _ _ ou1
    have k2 := (SH9.trans (SH10.trans (SH11.trans (SH12.trans (SH13.trans (S1315.trans S1517)))))) _ _ ou2
    have k3 := (SH10.trans (SH11.trans (SH12.trans (SH13.trans (S1315.trans S1517))))) _ _ ou3
    have k0 := (SH11.trans (SH12.trans (SH13.trans (S1315.trans S1517)))) _ _ ou0
    have k4 := (SH12.trans (SH13.trans (S1315.trans S1517))) _ _ ou4
    have k5 := (SH13.trans (S1315.trans S1517)) _ _ ou5
    have k6 := (S1315.trans S1517) _ _ ou6
    have k7 := S1517 _ _ ou7'
    let lk : PyData := .tuple [.int 0, .none, .none]
    let tr0 : List (V × PyData) := [(.non, .none), (.bl true, .bool true), (.bl false, .bool false), (.str "0", .str "0"), (.str "", .str ""), (.ref t1, .tuple []), (.ref t2, .tuple [.int 0]), (.ref t3, .list []), (.ref t4, .dict []), (.int (-1), .int (-1)), (.int 0, .int 0), (.int 1, .int 1), (.int 15, .int 15), (.int 16, .int 16), (.int 17, .int 17), (.int (10 ^ Int.toNat 29), .int (10 ^ Int.toNat 29)), (.int (-(10 ^ Int.toNat 29)), .int (-(10 ^ Int.toNat 29))), (.ref t5, lk),
      (.ref u1, .tuple [.int 1, .int 2, .int 2]), (.ref u2, .tuple [.int 0, .int 2, .int 2]), (.ref u3, .tuple [.int 0, .int 3, .int 2]), (.ref u4, .tuple [.int 0, .int 0, lk]), (.ref u5, .list [d]), (.ref u6, .tuple [d]), (.ref u7, .dict [(.int 0, d)])]
    have hI : ∀ (a : Addr) (ns : List Int), H17 a = some (.tup (ns.map V.int)) → Th K p H17 (.ref a) (.tuple (ns.map PyData.int)) := fun a ns h => by
      have := Th.tup (K := K) (p := p) (tr := ns.map fun i => (V.int i, PyData.int i)) (by rw [List.map_map]; exact h) fun t ht => by
        obtain ⟨i, _, rfl⟩ := List.mem_map.mp ht
        exact .int i
      rw [List.map_map] at this
      exact this
    have hlk : ∀ a, H17 a = some (.tup [.int 0, .non, .non]) → Th K p H17 (.ref a) lk := fun a h => Th.tup (tr := [(.int 0, .int 0), (.non, .none), (.non, .none)]) h fun t ht => by
      simp only [List.mem_cons, List.not_mem_nil, or_false] at ht
      rcases ht with rfl | rfl | rfl
      · exact .int 0
      · exact .non
      · exact .non
    have hd1 : Wg d (n + 1) c (b + 1) := hw.mono (by omega) (Nat.le_refl _) (by omega)
    have all0 : ∀ t ∈ tr0, Th K p H17 t.1 t.2 ∧ Wg t.2 (n + 2) (c + 30000) (b + 1) := fun t ht => by
      simp only [tr0, List.mem_cons, List.not_mem_nil, or_false] at ht
      rcases ht with rfl | rfl | rfl | rfl | rfl | rfl | rfl | rfl | rfl | rfl | rfl | rfl | rfl | rfl | rfl | rfl | rfl | rfl | rfl | rfl | rfl | rfl | rfl | rfl | rfl
      · exact ⟨.non, wg_const (by dsimp only; decide) (by dsimp only; decide) (by dsimp only; decide) b1⟩
      · exact ⟨.bl _, wg_const (by dsimp only; decide) (by dsimp only; decide) (by dsimp only; decide) b1⟩
      · exact ⟨.bl _, wg_const (by dsimp only; decide) (by dsimp only; decide) (by dsimp only; decide) b1⟩
      · exact ⟨.str _, wg_const (by dsimp only; decide) (by dsimp only; decide +kernel) (by dsimp only; decide) b1⟩
      · exact ⟨.str _, wg_const (by dsimp only; decide) (by dsimp only; decide +kernel) (by dsimp only; decide) b1⟩
      · exact ⟨hI _ [] g1, wg_const (by dsimp only; decide) (by dsimp only; decide) (by dsimp only; decide) b1⟩
      · exact ⟨hI _ [0] g2, wg_const (by dsimp only; decide) (by dsimp only; decide) (by dsimp only; decide) b1⟩
      · exact ⟨Th.lst (tr := []) npt3 s3 g3 fun t h => absurd h List.not_mem_nil, wg_const (by dsimp only; decide) (by dsimp only; decide) (by dsimp only; decide) b1⟩
      · exact ⟨Th.dct (tr := []) g4 fun t h => absurd h List.not_mem_nil, wg_const (by dsimp only; decide) (by dsimp only; decide) (by dsimp only; decide) b1⟩
      · exact ⟨.int _, wg_const (by dsimp only; decide) (by dsimp only; decide) (by dsimp only; decide) b1⟩
      · exact ⟨.int _, wg_const (by dsimp only; decide) (by dsimp only; decide) (by dsimp only; decide) b1⟩
      · exact ⟨.int _, wg_const (by dsimp only; decide) (by dsimp only; decide) (by dsimp only; decide) b1⟩
      · exact ⟨.int _, wg_const (by dsimp only; decide) (by dsimp only; decide) (by dsimp only; decide) b1⟩
      · exact ⟨.int _, wg_const (by dsimp only; decide) (by dsimp only; decide) (by dsimp only; decide) b1⟩
      · exact ⟨.int _, wg_const (by dsimp only; decide) (by dsimp only; decide) (by dsimp only; decide) b1⟩
      · exact ⟨.int _, wg_const (by dsimp only; decide) (by dsimp only; decide) (by dsimp only; decide) b1⟩
      · exact ⟨.int _, wg_const (by dsimp only; decide) (by dsimp only; decide) (by dsimp only; decide) b1⟩
      · exact ⟨hlk _ g5, wg_const (by dsimp only; decide) (by dsimp only; decide) (by dsimp only; decide) b1⟩
      · exact ⟨hI _ [1, 2, 2] k1, wg_const (by dsimp only; decide) (by dsimp only; decide) (by dsimp only; decide) b1⟩
      · exact ⟨hI _ [0, 2, 2] k2, wg_const (by dsimp only; decide) (by dsimp only; decide) (by dsimp only; decide) b1⟩
      · exact ⟨hI _ [0, 3, 2] k3, wg_const (by dsimp only; decide) (by dsimp only; decide) (by dsimp only; decide) b1⟩
      · refine ⟨Th.tup (tr := [(.int 0, .int 0), (.int 0, .int 0), (.ref u0, lk)]) k4 fun t ht => ?_, wg_const (by dsimp only; decide) (by dsimp only; decide) (by dsimp only; decide) b1⟩
        simp only [List.mem_cons, List.not_mem_nil, or_false] at ht
        rcases ht with rfl | rfl | rfl
        · exact .int 0
        · exact .int 0
        · exact hlk _ k0
      · refine ⟨Th.lst (tr := [(v, d)]) npu5 s12 k5 fun t ht => ?_, (Wg.lst (Wgs.cons hd1 (Wgs.nil (c := 0)))).mono (Nat.le_refl _) (by omega) (Nat.le_refl _)⟩
        cases List.mem_singleton.mp ht
        exact hd17
      · refine ⟨Th.tup (tr := [(v, d)]) k6 fun t ht => ?_, (Wg.tup (Wgs.cons hd1 (Wgs.nil (c := 0)))).mono (Nat.le_refl _) (by omega) (Nat.le_refl _)⟩
        cases List.mem_singleton.mp ht
        exact hd17
      · refine ⟨Th.dct (tr := [(0, v, d)]) k7 fun t ht => ?_, ?_⟩
        · cases List.mem_singleton.mp ht
          exact hd17
        · refine ⟨?_, ?_, ?_⟩
          · have := hd1.dep
            show max (max 0 d.depth) 0 + 1 ≤ n + 2
            omega
          · have := hd1.len
            show 1921 + wt d + 8 + 0 + 4 ≤ c + 30000
            omega
          · have := hd1.big
            show max (max 0 (ib d)) 0 ≤ b + 1
            omega
    have bh : But p H H17 := same_but S017
    have fin : ∀ (tr : List (V × PyData)) (Hf He : Hp) (e : Nat), Same H17 Hf → PotAt Hf p → (∀ t ∈ tr, Th K p H17 t.1 t.2 ∧ Wg t.2 (n + 2) (c + 30000) (b + 1)) → But p Hf He → PotAt He p → ∀ h : e < tr.length, Q tr[e].1 He := fun tr Hf He e sf pf all be pe h => by
      obtain ⟨h1, h2⟩ := all _ (List.getElem_mem h)
      obtain ⟨x, y, hx, _⟩ := pf
      exact q _ _ He (bh.trans ((same_but sf).trans be)) pe ((h1.same sf).but be hx) h2
    try walk_at "go"
    refine ite2 (fun cw => ?_) (fun cw => ?_)
    · obtain ⟨i, rfl⟩ := isWh_inv cw
      have ev := hd.int_inv
      subst ev
      have hi : i.natAbs ≤ b := hw.big
      have hlog : i.natAbs.log2 < 1920 := log_lt (by decide) (Nat.lt_of_le_of_lt (Nat.le_trans hi b2) (by decide))
      try walk_at "go"
      intro L4 hL4
      generalize eH18 : upd _ L4 _ = H18
      have SH18 := newS eH18 hL4
      have oL4 := newO eH18
      intro s18
      have oL3' := SH18 _ _ oL3
      try walk_at "go"
      intro L5 hL5
      generalize eH19 : upd _ L5 _ = H19
      have SH19 := newS eH19 hL5
      have oL5 := newO eH19
      have oL3'' := SH19 _ _ oL3'
      try walk_at "go"
      refine ⟨by show 25 + 8 ≤ sizeLine; decide, ?_⟩
      intro L6 hL6
      generalize eH20 : upd _ L6 _ = H20
      have SH20 := newS eH20 hL6
      have oL6 := newO eH20
      let tr1 : List (V × PyData) := tr0 ++ [(.int (i + 1), .int (i + 1)), (.int (i - 1), .int (i - 1)), (.int (0 - i), .int (0 - i)), (.str (toString i), .str (toString i)), (.int (i + 1), .int (i + 1)), (.int (i - 1), .int (i - 1)), (.int (0 - i), .int (0 - i)), (.str (toString i), .str (toString i))]
      have oL6' : H20 L6 = some (.lst (tr1.map fun t => t.1)) := oL6
      clear oL6 oL4 oL5 oL3 oL3' oL3'' eH20 eH19 eH18 eH17
      have S1720 := SH18.trans (SH19.trans SH20)
      have p20 := p17.same S1720
      have npL6 : L6 ≠ p := pot_ne (p17.same (SH18.trans SH19)) hL6
      have all1 : ∀ t ∈ tr1, Th K p H17 t.1 t.2 ∧ Wg t.2 (n + 2) (c + 30000) (b + 1) := fun t ht => by
        rcases List.mem_append.mp ht with z | z
        · exact all0 t z
        have wi : ∀ j : Int, j.natAbs ≤ b + 1 → Wg (.int j) (n + 2) (c + 30000) (b + 1) := fun j hj => ⟨Nat.zero_le _, by show 1921 ≤ _; omega, hj⟩
        have ws : Wg (.str (toString i)) (n + 2) (c + 30000) (b + 1) := ⟨Nat.zero_le _, by have := strI_wt i (Nat.le_trans hi (Nat.le_trans b2 (by decide))); omega, Nat.zero_le _⟩
        simp only [List.mem_cons, List.not_mem_nil, or_false] at z
        rcases z with rfl | rfl | rfl | rfl | rfl | rfl | rfl | rfl
        · exact ⟨.int _, wi _ (by omega)⟩
        · exact ⟨.int _, wi _ (by omega)⟩
        · exact ⟨.int _, wi _ (by omega)⟩
        · exact ⟨.str _, ws⟩
        · exact ⟨.int _, wi _ (by omega)⟩
        · exact ⟨.int _, wi _ (by omega)⟩
        · exact ⟨.int _, wi _ (by omega)⟩
        · exact ⟨.str _, ws⟩
      have l1 : 1 ≤ tr1.length := by show 1 ≤ 33; decide
      have l40 : tr1.length ≤ 40 := by show 33 ≤ 40; decide
      clear_value tr1
      have lm : (tr1.map fun t => t.1).length = tr1.length := List.length_map _
      try walk_at "go"
      intro e0 He e1 e2 be pe
      rw [lm] at e2
      obtain ⟨e, rfl⟩ : ∃ e : Nat, e0 = (e : Int) := ⟨e0.toNat, by omega⟩
      have el : e < tr1.length := by omega
      have hLe := be _ _ npL6 oL6'
      have ae : atI (tr1.map fun t => t.1) (e : Int) = some tr1[e].1 := atI_nat (by rw [List.getElem?_map, List.getElem?_eq_getElem el] <;> rfl)
      try walk_at "go"
      exact fin tr1 H20 He e S1720 p20 all1 be pe el
    · have oL3' : H17 L3 = some (.lst (tr0.map fun t => t.1)) := oL3
      clear oL3 eH17
      have npL3 : L3 ≠ p := pot_ne (hp.same (S015.trans SH16)) hL3
      have l1 : 1 ≤ tr0.length := by show 1 ≤ 25; decide
      have l40 : tr0.length ≤ 40 := by show 25 ≤ 40; decide
      clear_value tr0
      have lm : (tr0.map fun t => t.1).length = tr0.length := List.length_map _
      try walk_at "go"
      intro e0 He e1 e2 be pe
      rw [lm] at e2
      obtain ⟨e, rfl⟩ : ∃ e : Nat, e0 = (e : Int) := ⟨e0.toNat, by omega⟩
      have el : e < tr0.length := by omega
      have hLe := be _ _ npL3 oL3'
      have ae : atI (tr0.map fun t => t.1) (e : Int) = some tr0[e].1 := atI_nat (by rw [List.getElem?_map, List.getElem?_eq_getElem el] <;> rfl)
      try walk_at "go"
      exact fin tr0 H17 He e (Same.refl _) p17 all0 be pe el
/-! SPLIT -/
def spLDeedT (K : PySem.W.Frag) : Sp := fun vs H Q _ => ∃ (v : V) (d : PyData) (p : Addr), vs = [v] ∧ Th K p H v d ∧ ∀ H', Same H H' → Q (.bl (isDd d)) H'
theorem k__law_is_deed (D : Df K mg "_law_is_deed" s__law_is_deed ["_law_thing"]) (D__law_is_whole : Dn P w K mg base 1 "_law_is_whole" ["_law_thing"] (spWhT2 K)) : Dn P w K mg base 3 "_law_is_deed" ["_law_thing"] (spLDeedT K) := by
  refine D.ok fun f fd F => okG0 F sc__law_is_deed (fun vs H Q E h => ?_) (fun cdv A outer s H vs Q E hr h => ⟨_, (pss_cons (ps_if (PW.pt (pw_or (pt_not (pt_val (pe_callB (kk (K := K) (F := rIsi) (P := CallR _ _) call_isi) (by rfl) B.isinstance_ (by decide +kernel) (pa_cons (pv 0) (pa_cons (pe_bltn (v := .ty "tuple") (u := .type "tuple") (by rfl) B.tuple_ (by decide +kernel) rfl) pa_nil))))) (pw_or (pt_cmpR op_ne (pe_callB (lenK (K := K)) (by rfl) B.len_ (by decide +kernel) (pa_cons (pv 0) pa_nil)) pe_int (nomark _)) (pw_or1 (pt_not (pt_val (pe_cD D__law_is_whole (hr.less (by decide)) rfl (pa_cons (pe_ix (kk (K := K) (F := rIxT) (P := IxR _) ix_tup) (pv 0) pe_int (fun _ _ => rfl)) pa_nil))))))))
      (pss_one (ps_ret pe_bl))
      pss_nil)
    (pss_cons (ps_if (pt_not (pt_val (pe_callB (kk (K := K) (F := rAll) (P := CallR _ _) (cr_all rfl)) (by rfl) B.all_ (by decide +kernel) (pa_cons (pe_lc (own := [("_law_end", 1)]) (g := gName 1) (tt := tYes) rfl sc__law_is_deed.nd (kk (K := K) (F := fun K => iTup K _) (P := PI _ _ _) (pi_tup (pe_slice sl_tupU (pv 0) (po_some pe_int) po_none))) (blkOk_by (own := [("_law_end", 1)]) (N := ["_law_thing", "_law_end"]) (sc := defScope s__law_is_deed) (by decide +kernel)) (fun _ _ _ _ _ => (pg_name (i := 1) sc__law_is_deed.nd rfl (Or.inl rfl))) (fun _ _ _ _ _ => pts_nil) (fun _ _ _ _ _ => (pe_or (pe_cmpR op_isN (pv 1) pe_non (nomark _)) (pe_one (pe_cD D__law_is_whole (hr.less (by decide)) rfl (pa_cons (pv 1) pa_nil)))))) pa_nil))))
      (pss_one (ps_ret pe_bl))
      pss_nil)
    (pss_cons (ps_if (pt_cmpR (kk (K := K) (F := fun K => rIn K false) (P := OpR _ _) op_in_seq) pe_non (pe_slice sl_tupU (pv 0) (po_some pe_int) po_none) (by rfl))
      (pss_one (ps_ret pe_bl))
      pss_nil)
    (pss_one (ps_ret (pe_or (pe_cmpR op_lt (pe_ix (kk (K := K) (F := rIxT) (P := IxR _) ix_tup) (pv 0) pe_int (fun _ _ => rfl)) (pe_ix (kk (K := K) (F := rIxT) (P := IxR _) ix_tup) (pv 0) pe_int (fun _ _ => rfl)) (nomark _)) (pe_one (pe_and (pe_cmpR op_eq (pe_ix (kk (K := K) (F := rIxT) (P := IxR _) ix_tup) (pv 0) pe_int (fun _ _ => rfl)) (pe_ix (kk (K := K) (F := rIxT) (P := IxR _) ix_tup) (pv 0) pe_int (fun _ _ => rfl)) (nomark _)) (pe_one (pe_cmpR op_eq (pe_ix (kk (K := K) (F := rIxT) (P := IxR _) ix_tup) (pv 0) pe_int (fun _ _ => rfl)) pe_int (nomark _))))))))))), ?_⟩)
  · obtain ⟨v, d, p, rfl, _⟩ := h; rfl
  · obtain ⟨v, d, p, rfl, hd, q⟩ := h
    have ty := hd.ty
    have k1 := kit_tu (K := K) d
    cases e0 : isN 3 d with
    | false =>
      rw [isDd_no e0] at q
      cases ed : isTu d with
      | false =>
        rw [ed] at k1
        try walk_at "go"
        refine ifT rfl ?_
        try walk_at "go"
        exact q _ (Same.refl _)
      | true =>
        rw [ed] at k1
        obtain ⟨ds, rfl⟩ := isTu_inv ed
        obtain ⟨a, tr, rfl, rfl, ha, htr⟩ := hd.tup_inv
        have l3 : (tr.map fun t => t.1).length ≠ 3 := fun z => by
          have e0 : decide ((tr.map fun t => t.2).length = 3) = false := e0
          rw [len_map2] at e0
          rw [len_map1] at z
          exact of_decide_eq_false e0 z
        try walk_at "go"
        refine ifT (dec_ne' l3) ?_
        try walk_at "go"
        exact q _ (Same.refl _)
    | true =>
      obtain ⟨ds, rfl, l3⟩ := isN_tu e0
      obtain ⟨a, tr, rfl, rfl, ha, htr⟩ := hd.tup_inv
      rw [len_map2] at l3
      obtain ⟨⟨xv, xd⟩, ⟨yv, yd⟩, ⟨zv, zd⟩, rfl⟩ : ∃ x y z, tr = [x, y, z] := by
        match tr, l3 with
        | [x, y, z], _ => exact ⟨x, y, z, rfl⟩
      have hx : Th K p H xv xd := htr _ List.mem_cons_self
      have hy : Th K p H yv yd := htr _ (List.mem_cons_of_mem _ List.mem_cons_self)
      have hz : Th K p H zv zd := htr _ (List.mem_cons_of_mem _ (List.mem_cons_of_mem _ List.mem_cons_self))
      have ha : H a = some (.tup [xv, yv, zv]) := ha
      have i0 : atI [xv, yv, zv] 0 = some xv := rfl
      have i1 : atI [xv, yv, zv] 1 = some yv := rfl
      have i2 : atI [xv, yv, zv] 2 = some zv := rfl
      replace q : ∀ H', Same H H' → Q (.bl (isWh xd && (isEnd yd && (isEnd zd && okE xd yd zd)))) H' := q
      have k1 : PySem.W.kitOne K (.type (tyD (.tuple [xd, yd, zd]))) (.type "tuple") = some true := k1
      have ty : TyX K H (.ref a) (.type (tyD (.tuple [xd, yd, zd]))) := ty
      try walk_at "go"
      cases e1 : isWh xd with
      | false =>
        rw [e1] at q
        refine ifT rfl ?_
        try walk_at "go"
        exact q _ (Same.refl _)
      | true =>
      rw [e1] at q
      refine ifF rfl ?_
      try walk_at "go"
      intro T H1 S1 oT
      have oT : H1 T = some (.tup [yv, zv]) := oT
      try walk_at "go"
      intro D hD
      refine lc_tup (K := K) (a := T) (xs := [yv, zv]) (fun i H' => Kept (Same H1 H' ∧ H' D = some (.lst ((([isEnd yd, isEnd zd]).take i).map V.bl)))) ⟨same_new hD _, upd_same⟩ (fun i H' _ h => SqT.of (h.ex.1 _ _ oT)) ?_ ?_
      · rintro i y H2 hi ⟨S2, hD2⟩
        have hyz : ∃ d2, Th K p H2 y d2 ∧ [isEnd yd, isEnd zd][i]? = some (isEnd d2) := by
          match i, hi with
          | 0, hi => cases (Option.some.inj hi); exact ⟨yd, hy.same (S1.trans S2), rfl⟩
          | 1, hi => cases (Option.some.inj hi); exact ⟨zd, hz.same (S1.trans S2), rfl⟩
          | n + 2, hi => simp at hi
        obtain ⟨d2, h2, h3⟩ := hyz
        have ln : ((([isEnd yd, isEnd zd]).take i).map V.bl).length ≤ 2 := by rw [List.length_map, List.length_take]; show min i 2 ≤ 2; omega
        have e4 := h2.no_dec
        have fin : ∀ b : Bool, isEnd d2 = b → Kept (Same H1 (upd H2 D (.lst ((([isEnd yd, isEnd zd]).take i).map V.bl ++ [V.bl b]))) ∧ (upd H2 D (.lst ((([isEnd yd, isEnd zd]).take i).map V.bl ++ [V.bl b]))) D = some (.lst ((([isEnd yd, isEnd zd]).take (i + 1)).map V.bl))) := fun b e => ⟨but_same hD S2 But.upd, by rw [upd_same, List.take_succ, h3, e, List.map_append] <;> rfl⟩
        try walk_at "go"
        rw [e4]
        cases e5 : isNo d2 with
        | true =>
          refine ifT rfl ?_
          try walk_at "go"
          exact fin true (by unfold isEnd; rw [e5] <;> rfl)
        | false =>
          refine ifF rfl ?_
          try walk_at "go"
          exact fin (isWh d2) (by unfold isEnd; rw [e5] <;> rfl)
      · rintro H2 ⟨S2, hD2⟩
        try walk_at "go"
        cases e2 : isEnd yd with
        | false =>
          rw [e2] at q
          refine ifT rfl ?_
          try walk_at "go"
          exact q _ (S1.trans S2)
        | true =>
        cases e3 : isEnd zd with
        | false =>
          rw [e2, e3] at q
          refine ifT rfl ?_
          try walk_at "go"
          exact q _ (S1.trans S2)
        | true =>
        rw [e2, e3] at q
        refine ifF rfl ?_
        obtain ⟨i, rfl⟩ := isWh_inv e1
        cases hx.int_inv
        have eno : ∀ {v : V} {d : PyData}, Th K p H v d → isEnd d = true → (v = .non ∧ d = .none) ∨ ∃ j, v = .int j ∧ d = .int j := fun {v d} h e => by
          cases h with
          | non => exact .inl ⟨rfl, rfl⟩
          | int j => exact .inr ⟨j, rfl, rfl⟩
          | _ => cases e
        have ha2 := S2 _ _ (S1 _ _ ha)
        rcases eno hy e2 with ⟨rfl, rfl⟩ | ⟨l, rfl, rfl⟩
        · rcases eno hz e3 with ⟨rfl, rfl⟩ | ⟨u, rfl, rfl⟩
          · try walk_at "go"
            intro T2 H3 S3 oT2
            replace oT2 : H3 T2 = some (.tup [.non, .non]) := oT2
            have ff : [V.non, V.non].all flatV = true := rfl
            try walk_at "go"
            refine ifT rfl ?_
            try walk_at "go"
            exact q _ (S1.trans (S2.trans S3))
          · try walk_at "go"
            intro T2 H3 S3 oT2
            replace oT2 : H3 T2 = some (.tup [.non, .int u]) := oT2
            have ff : [V.non, V.int u].all flatV = true := rfl
            try walk_at "go"
            refine ifT rfl ?_
            try walk_at "go"
            exact q _ (S1.trans (S2.trans S3))
        · rcases eno hz e3 with ⟨rfl, rfl⟩ | ⟨u, rfl, rfl⟩
          · try walk_at "go"
            intro T2 H3 S3 oT2
            replace oT2 : H3 T2 = some (.tup [.int l, .non]) := oT2
            have ff : [V.int l, V.non].all flatV = true := rfl
            try walk_at "go"
            refine ifT rfl ?_
            try walk_at "go"
            exact q _ (S1.trans (S2.trans S3))
          · replace q : ∀ H', Same H H' → Q (.bl (decide (l < u) || (decide (l = u) && decide (i = 0)))) H' := q
            try walk_at "go"
            intro T2 H3 S3 oT2
            replace oT2 : H3 T2 = some (.tup [.int l, .int u]) := oT2
            have ff : [V.int l, V.int u].all flatV = true := rfl
            have ha3 := S3 _ _ ha2
            replace q := q _ (S1.trans (S2.trans S3))
            try walk_at "go"
            refine ite2 (fun c1 => ?_) (fun c1 => ?_)
            · rw [c1, Bool.true_or] at q
              exact q
            · rw [Bool.eq_false_iff.mpr c1, Bool.false_or] at q
              try walk_at "go"
              by_cases c2 : l = u
              · rw [decide_eq_true c2, Bool.true_and] at q
                refine ifT (decide_eq_true (by rw [c2])) ?_
                try walk_at "go"
                have e4 : decide (V.int i = V.int 0) = decide (i = 0) := by
                  by_cases c3 : i = 0
                  · rw [decide_eq_true c3, c3, decide_eq_true rfl]
                  · rw [decide_eq_false c3, decide_eq_false fun z => c3 (V.int.inj z)]
                rw [← e4] at q
                exact q
              · rw [decide_eq_false c2, Bool.false_and] at q
                refine ifF (decide_eq_false fun z => c2 (V.int.inj z)) ?_
                exact q
def spLBdT (K : PySem.W.Frag) : Sp := fun vs H Q _ => ∃ (v : V) (d : PyData) (p : Addr), vs = [v] ∧ Th K p H v d ∧ ∀ H', Same H H' → Q (.bl (isBd d)) H'
theorem k__law_is_board (D : Df K mg "_law_is_board" s__law_is_board ["_law_thing"]) (D__law_is_whole : Dn P w K mg base 1 "_law_is_whole" ["_law_thing"] (spWhT2 K)) : Dn P w K mg base 2 "_law_is_board" ["_law_thing"] (spLBdT K) := by
  refine D.ok fun f fd F => okG0 F sc__law_is_board (fun vs H Q E h => ?_) (fun cdv A outer s H vs Q E hr h => ⟨_, (pss_cons (ps_if (PW.pt (pw_or (pt_not (pt_val (pe_callB (kk (K := K) (F := rIsi) (P := CallR _ _) call_isi) (by rfl) B.isinstance_ (by decide +kernel) (pa_cons (pv 0) (pa_cons (pe_bltn (v := .ty "tuple") (u := .type "tuple") (by rfl) B.tuple_ (by decide +kernel) rfl) pa_nil))))) (pw_or (pt_cmpR op_lt (pe_callB (lenK (K := K)) (by rfl) B.len_ (by decide +kernel) (pa_cons (pv 0) pa_nil)) pe_int (nomark _)) (pw_or1 (pt_cmpR op_gt (pe_callB (lenK (K := K)) (by rfl) B.len_ (by decide +kernel) (pa_cons (pv 0) pa_nil)) pe_int (nomark _))))))
      (pss_one (ps_ret pe_bl))
      pss_nil)
    (pss_one (ps_ret (pe_callB (kk (K := K) (F := rAll) (P := CallR _ _) (cr_all rfl)) (by rfl) B.all_ (by decide +kernel) (pa_cons (pe_lc (own := [("_law_value", 1)]) (g := gName 1) (tt := tYes) rfl sc__law_is_board.nd (kk (K := K) (F := fun K => iTup K _) (P := PI _ _ _) (pi_tup (pv 0))) (blkOk_by (own := [("_law_value", 1)]) (N := ["_law_thing", "_law_value"]) (sc := defScope s__law_is_board) (by decide +kernel)) (fun _ _ _ _ _ => (pg_name (i := 1) sc__law_is_board.nd rfl (Or.inl rfl))) (fun _ _ _ _ _ => pts_nil) (fun _ _ _ _ _ => (pe_cD D__law_is_whole (hr.less (by decide)) rfl (pa_cons (pv 1) pa_nil)))) pa_nil))))), ?_⟩)
  · obtain ⟨v, d, p, rfl, _⟩ := h; rfl
  · obtain ⟨v, d, p, rfl, hd, q⟩ := h
    have ty := hd.ty
    have k1 := kit_tu (K := K) d
    cases ed : isTu d with
    | false =>
      rw [ed] at k1
      rw [isBd_no ed] at q
      try walk_at "go"
      refine ifT rfl ?_
      try walk_at "go"
      exact q _ (Same.refl _)
    | true =>
      rw [ed] at k1
      obtain ⟨ds, rfl⟩ := isTu_inv ed
      obtain ⟨a, tr, rfl, rfl, ha, htr⟩ := hd.tup_inv
      have eb : isBd (.tuple (tr.map fun t => t.2)) = (decide (1 ≤ tr.length) && (decide (tr.length ≤ 16) && (tr.map fun t => t.2).all isWh)) := by
        show (decide (1 ≤ (tr.map fun t => t.2).length) && (decide ((tr.map fun t => t.2).length ≤ 16) && _)) = _
        rw [len_map2]
      rw [eb] at q
      try walk_at "go"
      refine ite2 (fun c1 => ?_) (fun c1 => ?_)
      · have c1' : ¬ 1 ≤ tr.length := by have := of_decide_eq_true c1; rw [len_map1] at this; omega
        rw [decide_eq_false c1', Bool.false_and] at q
        try walk_at "go"
        exact q _ (Same.refl _)
      have c1' : 1 ≤ tr.length := Nat.lt_of_not_le fun z => c1 (decide_eq_true (by rw [len_map1]; omega))
      rw [decide_eq_true c1', Bool.true_and] at q
      try walk_at "go"
      refine ite2 (fun c2 => ?_) (fun c2 => ?_)
      · have c2' : ¬ tr.length ≤ 16 := by have := of_decide_eq_true c2; rw [len_map1] at this; omega
        rw [decide_eq_false c2', Bool.false_and] at q
        try walk_at "go"
        exact q _ (Same.refl _)
      have c2' : tr.length ≤ 16 := Nat.le_of_not_lt fun z => c2 (decide_eq_true (by rw [len_map1]; omega))
      rw [decide_eq_true c2', Bool.true_and] at q
      try walk_at "go"
      intro D hD
      refine lc_tup (K := K) (a := a) (xs := tr.map fun t => t.1) (fun i H' => Kept (Same H H' ∧ H' D = some (.lst (((tr.take i).map fun t => isWh t.2).map V.bl)))) ⟨same_new hD _, upd_same⟩ (fun i H' _ h => SqT.of (h.ex.1 _ _ ha)) ?_ ?_
      · rintro i y H2 hi ⟨S2, hD2⟩
        rw [List.getElem?_map] at hi
        obtain ⟨t, ht, rfl⟩ := Option.map_eq_some_iff.mp hi
        have th2 := (htr t (List.mem_of_getElem? ht)).same S2
        have ln : (((tr.take i).map fun t => isWh t.2).map V.bl).length ≤ 100 := by rw [List.length_map, List.length_map, List.length_take]; omega
        try walk_at "go"
        exact ⟨⟨but_same hD S2 But.upd, by rw [upd_same, take_snocB isWh ht]⟩⟩
      · rintro H2 ⟨S2, hD2⟩
        try walk_at "go"
        rw [take_all]
        exact q _ S2
def spLAkT (K : PySem.W.Frag) : Sp := fun vs H Q _ => ∃ (b : Addr) (bv : List V) (v : V) (d : PyData) (p : Addr), vs = [.ref b, v] ∧ H b = some (.tup bv) ∧ bv.length ≤ 16 ∧ Th K p H v d ∧ ∀ H', Same H H' → Q (.bl (isAk bv.length d)) H'
theorem k__law_is_ask (D : Df K mg "_law_is_ask" s__law_is_ask ["_law_board_here", "_law_thing"]) (D__law_is_whole : Dn P w K mg base 1 "_law_is_whole" ["_law_thing"] (spWhT2 K)) (D__law_is_deed : Dn P w K mg base 3 "_law_is_deed" ["_law_thing"] (spLDeedT K)) : Dn P w K mg base 4 "_law_is_ask" ["_law_board_here", "_law_thing"] (spLAkT K) := by
  refine D.ok fun f fd F => okG0 F sc__law_is_ask (fun vs H Q E h => ?_) (fun cdv A outer s H vs Q E hr h => ⟨_, (pss_cons (ps_if (PW.pt (pw_or (pt_not (pt_val (pe_callB (kk (K := K) (F := rIsi) (P := CallR _ _) call_isi) (by rfl) B.isinstance_ (by decide +kernel) (pa_cons (pv 1) (pa_cons (pe_bltn (v := .ty "tuple") (u := .type "tuple") (by rfl) B.tuple_ (by decide +kernel) rfl) pa_nil))))) (pw_or (pt_cmpR op_ne (pe_callB (lenK (K := K)) (by rfl) B.len_ (by decide +kernel) (pa_cons (pv 1) pa_nil)) pe_int (nomark _)) (pw_or1 (pt_not (pt_val (pe_callB (kk (K := K) (F := rAll) (P := CallR _ _) (cr_all rfl)) (by rfl) B.all_ (by decide +kernel) (pa_cons (pe_lc (own := [("_law_one", 2)]) (g := gName 2) (tt := tYes) rfl sc__law_is_ask.nd (kk (K := K) (F := fun K => iTup K _) (P := PI _ _ _) (pi_tup (pe_slice sl_tupU (pv 1) po_none (po_some pe_int)))) (blkOk_by (own := [("_law_one", 2)]) (N := ["_law_board_here", "_law_thing", "_law_one"]) (sc := defScope s__law_is_ask) (by decide +kernel)) (fun _ _ _ _ _ => (pg_name (i := 2) sc__law_is_ask.nd rfl (Or.inl rfl))) (fun _ _ _ _ _ => pts_nil) (fun _ _ _ _ _ => (pe_cD D__law_is_whole (hr.less (by decide)) rfl (pa_cons (pv 2) pa_nil)))) pa_nil))))))))
      (pss_one (ps_ret pe_bl))
      pss_nil)
    (pss_one (ps_ret (pe_and (pe_chain op_le op_lt pe_int (pe_ix (kk (K := K) (F := rIxT) (P := IxR _) ix_tup) (pv 1) pe_int (fun _ _ => rfl)) pe_int) (pe_and (pe_chain op_le op_lt pe_int (pe_ix (kk (K := K) (F := rIxT) (P := IxR _) ix_tup) (pv 1) pe_int (fun _ _ => rfl)) (pe_callB (lenK (K := K)) (by rfl) B.len_ (by decide +kernel) (pa_cons (pv 0) pa_nil))) (pe_one (pe_cD D__law_is_deed (hr.less (by decide)) rfl (pa_cons (pe_ix (kk (K := K) (F := rIxT) (P := IxR _) ix_tup) (pv 1) pe_int (fun _ _ => rfl)) pa_nil)))))))), ?_⟩)
  · obtain ⟨b, bv, v, d, p, rfl, _⟩ := h; rfl
  · obtain ⟨b, bv, v, d, p, rfl, hb, h16, hd, q⟩ := h
    have ty := hd.ty
    have k1 := kit_tu (K := K) d
    cases e0 : isN 3 d with
    | false =>
      rw [isAk_no e0] at q
      cases ed : isTu d with
      | false =>
        rw [ed] at k1
        try walk_at "go"
        refine ifT rfl ?_
        try walk_at "go"
        exact q _ (Same.refl _)
      | true =>
        rw [ed] at k1
        obtain ⟨ds, rfl⟩ := isTu_inv ed
        obtain ⟨a, tr, rfl, rfl, ha, htr⟩ := hd.tup_inv
        have l3 : (tr.map fun t => t.1).length ≠ 3 := fun z => by
          have e0 : decide ((tr.map fun t => t.2).length = 3) = false := e0
          rw [len_map2] at e0
          rw [len_map1] at z
          exact of_decide_eq_false e0 z
        try walk_at "go"
        refine ifT (dec_ne' l3) ?_
        try walk_at "go"
        exact q _ (Same.refl _)
    | true =>
      obtain ⟨ds, rfl, l3⟩ := isN_tu e0
      obtain ⟨a, tr, rfl, rfl, ha, htr⟩ := hd.tup_inv
      rw [len_map2] at l3
      obtain ⟨⟨xv, xd⟩, ⟨yv, yd⟩, ⟨zv, zd⟩, rfl⟩ : ∃ x y z, tr = [x, y, z] := by
        match tr, l3 with
        | [x, y, z], _ => exact ⟨x, y, z, rfl⟩
      have hx : Th K p H xv xd := htr _ List.mem_cons_self
      have hy : Th K p H yv yd := htr _ (List.mem_cons_of_mem _ List.mem_cons_self)
      have hz : Th K p H zv zd := htr _ (List.mem_cons_of_mem _ (List.mem_cons_of_mem _ List.mem_cons_self))
      replace ha : H a = some (.tup [xv, yv, zv]) := ha
      have i0 : atI [xv, yv, zv] 0 = some xv := rfl
      have i1 : atI [xv, yv, zv] 1 = some yv := rfl
      have i2 : atI [xv, yv, zv] 2 = some zv := rfl
      replace q : ∀ H', Same H H' → Q (.bl (isWh xd && (isWh yd && ((decide (0 ≤ wnD xd) && decide (wnD xd < 16)) && ((decide (0 ≤ wnD yd) && decide (wnD yd < (bv.length : Int))) && isDd zd))))) H' := q
      replace k1 : PySem.W.kitOne K (.type (tyD (.tuple [xd, yd, zd]))) (.type "tuple") = some true := k1
      replace ty : TyX K H (.ref a) (.type (tyD (.tuple [xd, yd, zd]))) := ty
      try walk_at "go"
      intro T H1 S1 oT
      replace oT : H1 T = some (.tup [xv, yv]) := oT
      try walk_at "go"
      intro D hD
      refine lc_tup (K := K) (a := T) (xs := [xv, yv]) (fun i H' => Kept (Same H1 H' ∧ H' D = some (.lst ((([isWh xd, isWh yd]).take i).map V.bl)))) ⟨same_new hD _, upd_same⟩ (fun i H' _ h => SqT.of (h.ex.1 _ _ oT)) ?_ ?_
      · rintro i y H2 hi ⟨S2, hD2⟩
        have hyz : ∃ d2, Th K p H2 y d2 ∧ [isWh xd, isWh yd][i]? = some (isWh d2) := by
          match i, hi with
          | 0, hi => cases (Option.some.inj hi); exact ⟨xd, hx.same (S1.trans S2), rfl⟩
          | 1, hi => cases (Option.some.inj hi); exact ⟨yd, hy.same (S1.trans S2), rfl⟩
          | n + 2, hi => simp at hi
        obtain ⟨d2, h2, h3⟩ := hyz
        have ln : ((([isWh xd, isWh yd]).take i).map V.bl).length ≤ 2 := by rw [List.length_map, List.length_take]; show min i 2 ≤ 2; omega
        try walk_at "go"
        exact ⟨⟨but_same hD S2 But.upd, by rw [upd_same, List.take_succ, h3, List.map_append] <;> rfl⟩⟩
      · rintro H2 ⟨S2, hD2⟩
        try walk_at "go"
        cases e1 : isWh xd with
        | false =>
          rw [e1] at q
          refine ifT rfl ?_
          try walk_at "go"
          exact q _ (S1.trans S2)
        | true =>
        cases e2 : isWh yd with
        | false =>
          rw [e1, e2] at q
          refine ifT rfl ?_
          try walk_at "go"
          exact q _ (S1.trans S2)
        | true =>
        rw [e1, e2] at q
        refine ifF rfl ?_
        obtain ⟨i, rfl⟩ := isWh_inv e1
        obtain ⟨j, rfl⟩ := isWh_inv e2
        cases hx.int_inv
        cases hy.int_inv
        replace q : ∀ H', Same H H' → Q (.bl ((decide (0 ≤ i) && decide (i < 16)) && ((decide (0 ≤ j) && decide (j < (bv.length : Int))) && isDd zd))) H' := q
        have ha2 := S2 _ _ (S1 _ _ ha)
        have hb2 := S2 _ _ (S1 _ _ hb)
        have hz2 := hz.same (S1.trans S2)
        have S02 := S1.trans S2
        try walk_at "go"
        refine ite2 (fun c1 => ?_) (fun c1 => ?_)
        · rw [c1, Bool.true_and] at q
          try walk_at "go"
          refine ite2 (fun c2 => ?_) (fun c2 => ?_)
          · rw [c2, Bool.true_and] at q
            try walk_at "go"
            refine ite2 (fun c3 => ?_) (fun c3 => ?_)
            · rw [c3, Bool.true_and] at q
              try walk_at "go"
              refine ite2 (fun c4 => ?_) (fun c4 => ?_)
              · rw [c4, Bool.true_and] at q
                try walk_at "go"
                intro H3 S3
                exact q _ (S02.trans S3)
              · rw [Bool.eq_false_iff.mpr c4, Bool.false_and] at q
                exact q _ S02
            · rw [Bool.eq_false_iff.mpr c3, Bool.false_and] at q
              try walk_at "go"
              exact q _ S02
          · rw [Bool.eq_false_iff.mpr c2, Bool.false_and] at q
            exact q _ S02
        · rw [Bool.eq_false_iff.mpr c1, Bool.false_and] at q
          try walk_at "go"
          exact q _ S02
def spLAsT (K : PySem.W.Frag) : Sp := fun vs H Q _ => ∃ (b : Addr) (bv : List V) (v : V) (d : PyData) (p : Addr), vs = [.ref b, v] ∧ H b = some (.tup bv) ∧ bv.length ≤ 16 ∧ Th K p H v d ∧ nsz d ≤ 2000000 ∧ ∀ H', Same H H' → Q (.bl (isAs bv.length d)) H'
theorem k__law_are_asks (D : Df K mg "_law_are_asks" s__law_are_asks ["_law_board_here", "_law_thing"]) (D__law_is_ask : Dn P w K mg base 4 "_law_is_ask" ["_law_board_here", "_law_thing"] (spLAkT K)) : Dn P w K mg base 5 "_law_are_asks" ["_law_board_here", "_law_thing"] (spLAsT K) := by
  refine D.ok fun f fd F => okG0 F sc__law_are_asks (fun vs H Q E h => ?_) (fun cdv A outer s H vs Q E hr h => ⟨_, (pss_one (ps_ret (pe_and (pe_callB (kk (K := K) (F := rIsi) (P := CallR _ _) call_isi) (by rfl) B.isinstance_ (by decide +kernel) (pa_cons (pv 1) (pa_cons (pe_bltn (v := .ty "tuple") (u := .type "tuple") (by rfl) B.tuple_ (by decide +kernel) rfl) pa_nil))) (pe_one (pe_callB (kk (K := K) (F := rAll) (P := CallR _ _) (cr_all rfl)) (by rfl) B.all_ (by decide +kernel) (pa_cons (pe_lc (own := [("_law_one", 2)]) (g := gName 2) (tt := tYes) rfl sc__law_are_asks.nd (kk (K := K) (F := fun K => iTup K _) (P := PI _ _ _) (pi_tup (pv 1))) (blkOk_by (own := [("_law_one", 2)]) (N := ["_law_board_here", "_law_thing", "_law_one"]) (sc := defScope s__law_are_asks) (by decide +kernel)) (fun _ _ _ _ _ => (pg_name (i := 2) sc__law_are_asks.nd rfl (Or.inl rfl))) (fun _ _ _ _ _ => pts_nil) (fun _ _ _ _ _ => (pe_cD D__law_is_ask (hr.less (by decide)) rfl (pa_cons (pv 0) (pa_cons (pv 2) pa_nil))))) pa_nil)))))), ?_⟩)
  · obtain ⟨b, bv, v, d, p, rfl, _⟩ := h; rfl
  · obtain ⟨b, bv, v, d, p, rfl, hb, h16, hd, hz, q⟩ := h
    have ty := hd.ty
    have k1 := kit_tu (K := K) d
    cases ed : isTu d with
    | false =>
      rw [ed] at k1
      rw [isAs_no ed] at q
      try walk_at "go"
      first | exact q _ (Same.refl _) | exact ifF rfl (q _ (Same.refl _))
    | true =>
      rw [ed] at k1
      obtain ⟨ds, rfl⟩ := isTu_inv ed
      obtain ⟨a, tr, rfl, rfl, ha, htr⟩ := hd.tup_inv
      try walk_at "go"
      intro D hD
      refine lc_tup (K := K) (a := a) (xs := tr.map fun t => t.1) (fun i H' => Kept (Same H H' ∧ H' D = some (.lst (((tr.take i).map fun t => isAk bv.length t.2).map V.bl)))) ⟨same_new hD _, upd_same⟩ (fun i H' _ h => SqT.of (h.ex.1 _ _ ha)) ?_ ?_
      · rintro i y H2 hi ⟨S2, hD2⟩
        rw [List.getElem?_map] at hi
        obtain ⟨t, ht, rfl⟩ := Option.map_eq_some_iff.mp hi
        have th2 := (htr t (List.mem_of_getElem? ht)).same S2
        have hb2 := S2 _ _ hb
        have ln : (((tr.take i).map fun t => isAk bv.length t.2).map V.bl).length ≤ 2000000 := by
          have h1 := nszs_len (tr.map fun t => t.2)
          have h2 : 1 + nszs (tr.map fun t => t.2) ≤ 2000000 := hz
          rw [len_map2] at h1
          rw [List.length_map, List.length_map, List.length_take]
          omega
        have slz : 3000000 ≤ sizeLine := by decide
        try walk_at "go"
        intro H3 S3
        have hD3 := S3 _ _ hD2
        try walk_at "go"
        exact ⟨⟨but_same hD (S2.trans S3) But.upd, by rw [upd_same, take_snocB (isAk bv.length) ht]⟩⟩
      · rintro H2 ⟨S2, hD2⟩
        try walk_at "go"
        rw [take_all]
        exact q _ S2
/-! SPLIT -/
local macro_rules | `(tactic| walk_at "own") => `(tactic| first | exact L2.Dp.int _ | exact L2.Dp.bl _ | exact L2.Dp.non | exact L2.ClsV.own _)
/-! ENDM -/
def spByTT (K : PySem.W.Frag) (n : Nat) : Sp := fun vs H Q _ => ∃ (v : V) (d : PyData) (p : Addr), vs = [v] ∧ Th K p H v d ∧ lf d = true ∧ d.depth + 1 ≤ n ∧ nsz d ≤ 2000000 ∧ ∀ v' H', Same H H' → Th K p H' v' (byT d) → Q v' H'
theorem _law_by_truths_z (vs : List V) (H : Hp) (Q : VK) (E : XK) : ¬ spByTT K 0 vs H Q E := by
  rintro ⟨v, d, p, _, _, _, h, _⟩
  omega
theorem k__law_by_truths_rec (D : Df K mg "_law_by_truths" s__law_by_truths ["_law_thing"]) (D__law_is_whole : Dn P w K mg base 1 "_law_is_whole" ["_law_thing"] (spWhT2 K)) : ∀ n : Nat, Dn P w K mg base (2 + n) "_law_by_truths" ["_law_thing"] ((spByTT K) n) := by
  intro n
  induction n with
  | zero => exact D.ok fun f fd F => ⟨fun vs H Q E h => (_law_by_truths_z B vs H Q E h).elim, fun _ _ _ _ h => (_law_by_truths_z B _ _ _ _ h).elim⟩
  | succ n D__law_by_truths =>
    refine D.ok fun f fd F => okG0 (k := 2 + n) F sc__law_by_truths (fun vs H Q E h => ?_) (fun cdv A outer s H vs Q E hr h => ⟨_, (pss_cons (ps_if (pt_val (pe_callB (kk (K := K) (F := rIsi) (P := CallR _ _) call_isi) (by rfl) B.isinstance_ (by decide +kernel) (pa_cons (pv 0) (pa_cons (pe_bltn (v := .ty "tuple") (u := .type "tuple") (by rfl) B.tuple_ (by decide +kernel) rfl) pa_nil))))
      (pss_one (ps_ret (pe_callTy (tupOfK (K := K)) (by rfl) B.tuple_ (by decide +kernel) (pa_cons (pe_lc (own := [("_law_one", 1)]) (g := gName 1) (tt := tYes) rfl sc__law_by_truths.nd (kk (K := K) (F := fun K => iTup K _) (P := PI _ _ _) (pi_tup (pv 0))) (blkOk_by (own := [("_law_one", 1)]) (N := ["_law_thing", "_law_one"]) (sc := defScope s__law_by_truths) (by decide +kernel)) (fun _ _ _ _ _ => (pg_name (i := 1) sc__law_by_truths.nd rfl (Or.inl rfl))) (fun _ _ _ _ _ => pts_nil) (fun _ _ _ _ _ => (pe_cD D__law_by_truths (hr.less (by omega)) rfl (pa_cons (pv 1) pa_nil)))) pa_nil))))
      pss_nil)
    (pss_one (ps_ret (pe_ix (kk (K := K) (F := rIxL) (P := IxR _) ix_list) (pe_lst (pa_cons (pv 0) (pa_cons (pe_cmpR (kk (K := K) (F := rEqD) (P := OpR _ _) (op_eqD hr.units)) (pv 0) pe_int (nomark _)) pa_nil))) (pe_callTy call_int1 (by rfl) B.int_ (by decide +kernel) (pa_cons (pe_and (pe_cD D__law_is_whole (hr.less (by omega)) rfl (pa_cons (pv 0) pa_nil)) (pe_one (pe_chain op_le op_lt pe_int (pv 0) pe_int))) pa_nil)) (fun _ _ => rfl))))), ?_⟩)
    · obtain ⟨v, d, p, rfl, _⟩ := h; rfl
    · obtain ⟨v, d, p, rfl, hd, el, hn, hz, q⟩ := h
      have ty := hd.ty
      have k1 := kit_tu (K := K) d
      cases ed : isTu d with
      | false =>
        rw [ed] at k1
        obtain ⟨dp, sh⟩ := hd.lfdp el ed
        try walk_at "go"
        intro L hL
        generalize eH1 : upd _ L _ = H1
        have SH1 := newS eH1 hL
        have oL := newO eH1
        have hd1 := hd.same SH1
        cases ew : isWh d with
        | false =>
          try walk_at "go"
          rw [ew]
          try walk_at "go"
          refine .inr ⟨_, rfl, ?_⟩
          have ti : atI [v, V.bl (d.eqv (PyData.int 1))] ((0 : Nat) : Int) = some v := rfl
          try walk_at "go"
          refine q _ _ SH1 ?_
          have e : byT d = d := by cases d <;> first | rfl | (cases ed; done) | (cases ew; done)
          rw [e]
          exact hd1
        | true =>
          obtain ⟨i, rfl⟩ := isWh_inv ew
          cases hd.int_inv
          have ee : (PyData.int i).eqv (PyData.int 1) = decide (i = 1) := by
            show (i == 1) = _
            rw [Bool.eq_iff_iff, beq_iff_eq, decide_eq_true_iff]
          have eb : byT (.int i) = if 0 ≤ i ∧ i < 2 then .bool (decide (i = 1)) else .int i := rfl
          rw [eb] at q
          rw [ee] at oL
          have t0 : atI [V.int i, V.bl (decide (i = 1))] ((0 : Nat) : Int) = some (.int i) := rfl
          have t1 : atI [V.int i, V.bl (decide (i = 1))] ((1 : Nat) : Int) = some (.bl (decide (i = 1))) := rfl
          try walk_at "go"
          refine ite2 (fun c1 => ?_) (fun c1 => ?_)
          · have c1' := of_decide_eq_true c1
            try walk_at "go"
            refine .inr ⟨_, rfl, ?_⟩
            by_cases c2 : i < 2
            · rw [if_pos ⟨c1', c2⟩] at q
              rw [decide_eq_true c2, if_pos rfl]
              try walk_at "go"
              exact q _ _ SH1 (.bl _)
            · rw [if_neg fun z => c2 z.2] at q
              rw [decide_eq_false c2, if_neg (by decide)]
              try walk_at "go"
              exact q _ _ SH1 (.int _)
          · rw [if_neg fun z => c1 (decide_eq_true z.1)] at q
            try walk_at "go"
            refine .inr ⟨_, rfl, ?_⟩
            rw [if_neg (by decide)]
            try walk_at "go"
            exact q _ _ SH1 (.int _)
      | true =>
        rw [ed] at k1
        obtain ⟨ds, rfl⟩ := isTu_inv ed
        obtain ⟨a, tr, rfl, rfl, ha, htr⟩ := hd.tup_inv
        have lt : tr.length ≤ 2000000 := by
          have h1 := nszs_len (tr.map fun t => t.2)
          have h2 : 1 + nszs (tr.map fun t => t.2) ≤ 2000000 := hz
          rw [len_map2] at h1
          omega
        have slz : 3000000 ≤ sizeLine := by decide
        have dep : ∀ t ∈ tr, t.2.depth + 1 ≤ n ∧ nsz t.2 ≤ 2000000 ∧ lf t.2 = true := fun t ht => by
          have hm := List.mem_map_of_mem (f := fun t : V × PyData => t.2) ht
          obtain ⟨h1, h2⟩ := dep_mem hm
          have h3 : PyData.depthAll (tr.map fun t => t.2) + 1 + 1 ≤ n + 1 := hn
          have h4 : 1 + nszs (tr.map fun t => t.2) ≤ 2000000 := hz
          exact ⟨by omega, by omega, lfs_mem el _ hm⟩
        try walk_at "go"
        intro D hD
        refine lc_tup (K := K) (a := a) (xs := tr.map fun t => t.1) (fun i H' => Kept (∃ rs : List (V × PyData), Same H H' ∧ H' D = some (.lst (rs.map fun t => t.1)) ∧ rs.map (fun t => t.2) = ((tr.take i).map fun t => t.2).map byT ∧ ∀ t ∈ rs, Th K p H' t.1 t.2 ∧ lf t.2 = true)) ⟨[], same_new hD _, upd_same, rfl, fun t h => absurd h List.not_mem_nil⟩ (fun i H' _ h => by obtain ⟨_, S, _⟩ := h.ex; exact SqT.of (S _ _ ha)) ?_ ?_
        · rintro i y H2 hi ⟨rs, S2, hD2, er, hrs⟩
          rw [List.getElem?_map] at hi
          obtain ⟨t, ht, rfl⟩ := Option.map_eq_some_iff.mp hi
          have th2 := (htr t (List.mem_of_getElem? ht)).same S2
          obtain ⟨g1, g2, g3⟩ := dep t (List.mem_of_getElem? ht)
          have lr : (rs.map fun t => t.1).length ≤ 2000000 := by
            have := congrArg List.length er
            rw [List.length_map, List.length_map, List.length_map, List.length_take] at this
            rw [len_map1]
            omega
          try walk_at "go"
          intro v' H3 S3 t3
          have hD3 := S3 _ _ hD2
          try walk_at "go"
          refine ⟨⟨rs ++ [(v', byT t.2)], but_same hD (S2.trans S3) But.upd, by rw [upd_same, List.map_append] <;> rfl, by rw [List.map_append, er, List.take_succ, ht, List.map_append, List.map_append] <;> rfl, fun u hu => ?_⟩⟩
          rcases List.mem_append.mp hu with hu | hu
          · exact ⟨((hrs u hu).1.same S3).butL (hrs u hu).2 But.upd hD3, (hrs u hu).2⟩
          · cases List.mem_singleton.mp hu
            exact ⟨t3.butL (byT_lf _ g3) But.upd hD3, byT_lf _ g3⟩
        · rintro H2 ⟨rs, S2, hD2, er, hrs⟩
          rw [len_map1, List.take_length] at er
          try walk_at "go"
          intro T hT
          generalize eH3 : upd _ T _ = H3
          have SH3 := newS eH3 hT
          have oT := newO eH3
          try walk_at "go"
          refine q _ _ (S2.trans SH3) ?_
          show Th K p H3 (.ref T) (.tuple (byTs (tr.map fun t => t.2)))
          rw [byTs_map, ← er]
          exact Th.tup oT fun t ht => (hrs t ht).1.same SH3
theorem k__law_by_truths (D : Df K mg "_law_by_truths" s__law_by_truths ["_law_thing"]) (D__law_is_whole : Dn P w K mg base 1 "_law_is_whole" ["_law_thing"] (spWhT2 K)) : Dn P w K mg base 8 "_law_by_truths" ["_law_thing"] ((spByTT K) 6) := k__law_by_truths_rec B D D__law_is_whole 6
def spWordT (K : PySem.W.Frag) : Sp := fun vs H Q E => ∃ (bv0 v : V) (bd d : PyData) (p p2 : Addr), vs = [bv0, v] ∧ Th K p H bv0 bd ∧ Th K p2 H v d ∧ nsz d ≤ 2000000 ∧ (∀ n ds, bd = .tuple ds → ds.length = n → isBd bd = true → ∀ H', Same H H' → Q (.bl (isAs n d)) H') ∧ (isBd bd = false → ∀ H', Same H H' → Q (.str "board") H')
theorem k__law_word (D : Df K mg "_law_word" s__law_word ["_law_board_here", "_law_thing"]) (D_are_asks : Dx P w K mg base 5 "are_asks" ["board", "thing"] (spAsT K (cAt mg "NoBoard"))) : Dn P w K mg base 6 "_law_word" ["_law_board_here", "_law_thing"] (spWordT K) := by
  refine D.ok fun f fd F => okG0 F sc__law_word (fun vs H Q E h => ?_) (fun cdv A outer s H vs Q E hr h => ⟨_, (pss_one (ps_try_as (i := 2) rfl rfl sc__law_word.nd rfl rfl ⟨rfl, by decide, .inl B.AskError_.mg_⟩ takes0 (fun W pn xe tk po => (pss_one (ps_ret (pe_cW D_are_asks (hr.less (by decide)) tk rfl (pa_cons (pv 0) (pa_cons (pv 1) pa_nil))))))
     (fun a oe cls d pn hz hf => (pss_cons (ps_set (i := 3) sc__law_word.nd rfl (Or.inl rfl) (pe_callB (call_isXT hz hf) (by rfl) B.isinstance_ (by decide +kernel) (pa_cons (pv 2) (pa_cons (pe_tup (pa_cons (pe_glob (v := .ref (cAt mg "NoAsk")) (u := .ref (cAt mg "NoAsk")) (by rfl) B.NoAsk_.mg_ rfl) (pa_cons (pe_glob (v := .ref (cAt mg "NoCalls")) (u := .ref (cAt mg "NoCalls")) (by rfl) B.NoCalls_.mg_ rfl) (pa_cons (pe_glob (v := .ref (cAt mg "NoDeed")) (u := .ref (cAt mg "NoDeed")) (by rfl) B.NoDeed_.mg_ rfl) (pa_cons (pe_glob (v := .ref (cAt mg "NoHand")) (u := .ref (cAt mg "NoHand")) (by rfl) B.NoHand_.mg_ rfl) (pa_cons (pe_glob (v := .ref (cAt mg "NoNet")) (u := .ref (cAt mg "NoNet")) (by rfl) B.NoNet_.mg_ rfl) (pa_cons (pe_glob (v := .ref (cAt mg "NoNumber")) (u := .ref (cAt mg "NoNumber")) (by rfl) B.NoNumber_.mg_ rfl) (pa_cons (pe_glob (v := .ref (cAt mg "NoOrder")) (u := .ref (cAt mg "NoOrder")) (by rfl) B.NoOrder_.mg_ rfl) (pa_cons (pe_glob (v := .ref (cAt mg "NoRow")) (u := .ref (cAt mg "NoRow")) (by rfl) B.NoRow_.mg_ rfl) (pa_cons (pe_glob (v := .ref (cAt mg "NoSettings")) (u := .ref (cAt mg "NoSettings")) (by rfl) B.NoSettings_.mg_ rfl) (pa_cons (pe_glob (v := .ref (cAt mg "NoSide")) (u := .ref (cAt mg "NoSide")) (by rfl) B.NoSide_.mg_ rfl) pa_nil))))))))))) pa_nil))))
     (pss_cons (ps_set (i := 3) sc__law_word.nd rfl (Or.inl rfl) (pe_or (pv 3) (pe_one (pe_callB (call_isXT hz hf) (by rfl) B.isinstance_ (by decide +kernel) (pa_cons (pv 2) (pa_cons (pe_tup (pa_cons (pe_glob (v := .ref (cAt mg "NoTable")) (u := .ref (cAt mg "NoTable")) (by rfl) B.NoTable_.mg_ rfl) (pa_cons (pe_glob (v := .ref (cAt mg "NoText")) (u := .ref (cAt mg "NoText")) (by rfl) B.NoText_.mg_ rfl) (pa_cons (pe_glob (v := .ref (cAt mg "NoToken")) (u := .ref (cAt mg "NoToken")) (by rfl) B.NoToken_.mg_ rfl) (pa_cons (pe_glob (v := .ref (cAt mg "NoTree")) (u := .ref (cAt mg "NoTree")) (by rfl) B.NoTree_.mg_ rfl) (pa_cons (pe_glob (v := .ref (cAt mg "TooMany")) (u := .ref (cAt mg "TooMany")) (by rfl) B.TooMany_.mg_ rfl) pa_nil)))))) pa_nil))))))
     (pss_one (ps_ret (pe_ix (kk (K := K) (F := rIxL) (P := IxR _) ix_list) (pe_lst (pa_cons pe_str (pa_cons pe_str pa_nil))) (pe_callTy call_int1 (by rfl) B.int_ (by decide +kernel) (pa_cons (pe_and (pe_callB (call_isX hz hf) (by rfl) B.isinstance_ (by decide +kernel) (pa_cons (pv 2) (pa_cons (pe_glob (v := .ref (cAt mg "NoBoard")) (u := .ref (cAt mg "NoBoard")) (by rfl) B.NoBoard_.mg_ rfl) pa_nil))) (pe_and (pe_callB (call_isX hz hf) (by rfl) B.isinstance_ (by decide +kernel) (pa_cons (pv 2) (pa_cons (pe_bltn (v := .ty "ValueError") (u := .type "ValueError") (by rfl) B.ValueError_ (by decide +kernel) rfl) pa_nil))) (pe_one (pe_not (pv 3))))) pa_nil)) (fun _ _ => rfl))))))))), ?_⟩)
  · obtain ⟨bv0, v, bd, d, p, p2, rfl, _⟩ := h; rfl
  · obtain ⟨bv0, v, bd, d, p, p2, rfl, hb, hd, hz, q1, q2⟩ := h
    have ex : PySem.W.exmOne K (.ref (cAt mg "NoBoard")) (.ref (cAt mg "AskError")) = some true := exm_of B.AskError_ B.NoBoard_AskError_
    try walk_at "go"
    intro eb H1 S1
    refine ⟨true, ex, fun _ a ha => ?_, fun z => by cases z⟩
    have k0 := kitO B.NoBoard_ B.NoBoard_NoBoard_ B.NoBoard_NoBoard_
    have kv := kitVE B.NoBoard_i
    have kc := B.NoBoard_i.c
    have no : ∀ y ∈ (["NoAsk", "NoCalls", "NoDeed", "NoHand", "NoNet", "NoNumber", "NoOrder", "NoRow", "NoSettings", "NoSide"] : List Str), PySem.W.kitOne K (.ref (cAt mg "NoBoard")) (.ref (cAt mg y)) = some false := fun y hy => by
      simp only [List.mem_cons, List.not_mem_nil, or_false] at hy
      rcases hy with rfl | rfl | rfl | rfl | rfl | rfl | rfl | rfl | rfl | rfl
      · exact kitO B.NoAsk_ B.NoBoard_NoBoard_ B.NoBoard_NoAsk_
      · exact kitO B.NoCalls_ B.NoBoard_NoBoard_ B.NoBoard_NoCalls_
      · exact kitO B.NoDeed_ B.NoBoard_NoBoard_ B.NoBoard_NoDeed_
      · exact kitO B.NoHand_ B.NoBoard_NoBoard_ B.NoBoard_NoHand_
      · exact kitO B.NoNet_ B.NoBoard_NoBoard_ B.NoBoard_NoNet_
      · exact kitO B.NoNumber_ B.NoBoard_NoBoard_ B.NoBoard_NoNumber_
      · exact kitO B.NoOrder_ B.NoBoard_NoBoard_ B.NoBoard_NoOrder_
      · exact kitO B.NoRow_ B.NoBoard_NoBoard_ B.NoBoard_NoRow_
      · exact kitO B.NoSettings_ B.NoBoard_NoBoard_ B.NoBoard_NoSettings_
      · exact kitO B.NoSide_ B.NoBoard_NoBoard_ B.NoBoard_NoSide_
    have no2 : ∀ y ∈ (["NoTable", "NoText", "NoToken", "NoTree", "TooMany"] : List Str), PySem.W.kitOne K (.ref (cAt mg "NoBoard")) (.ref (cAt mg y)) = some false := fun y hy => by
      simp only [List.mem_cons, List.not_mem_nil, or_false] at hy
      rcases hy with rfl | rfl | rfl | rfl | rfl
      · exact kitO B.NoTable_ B.NoBoard_NoBoard_ B.NoBoard_NoTable_
      · exact kitO B.NoText_ B.NoBoard_NoBoard_ B.NoBoard_NoText_
      · exact kitO B.NoToken_ B.NoBoard_NoBoard_ B.NoBoard_NoToken_
      · exact kitO B.NoTree_ B.NoBoard_NoBoard_ B.NoBoard_NoTree_
      · exact kitO B.TooMany_ B.NoBoard_NoBoard_ B.NoBoard_TooMany_
    try walk_at "go"
    intro T1 hT1
    generalize eH2 : upd _ T1 _ = H2
    have SH2 := newS eH2 hT1
    have oT1 := newO eH2
    try walk_at "go"
    refine ⟨pairOwn ["NoAsk", "NoCalls", "NoDeed", "NoHand", "NoNet", "NoNumber", "NoOrder", "NoRow", "NoSettings", "NoSide"], kitAnyF no, ?_⟩
    try walk_at "go"
    intro T2 hT2
    generalize eH3 : upd _ T2 _ = H3
    have SH3 := newS eH3 hT2
    have oT2 := newO eH3
    try walk_at "go"
    refine ⟨pairOwn ["NoTable", "NoText", "NoToken", "NoTree", "TooMany"], kitAnyF no2, ?_⟩
    try walk_at "go"
    intro L hL
    generalize eH4 : upd _ L _ = H4
    have SH4 := newS eH4 hL
    have oL := newO eH4
    try walk_at "go"
    refine .inr ⟨_, rfl, ?_⟩
    have z : (if (!false) = true then (1 : Int) else 0) = ((1 : Nat) : Int) := rfl
    have ti : atI [V.str "other", V.str "board"] ((1 : Nat) : Int) = some (.str "board") := rfl
    rw [z]
    try walk_at "go"
    exact q2 eb _ (S1.trans (SH2.trans (SH3.trans SH4)))
/-! SPLIT -/
def spBent (K : PySem.W.Frag) (n : Nat) : Sp := fun vs H Q _ => ∃ (p : Addr) (v : V) (d : PyData) (k N c b : Nat), vs = [.ref p, v, .int k] ∧ PotAt H p ∧ Th K p H v d ∧ Wg d N c b ∧ k + 1 ≤ n ∧ k ≤ 40 ∧ 10 ^ 29 ≤ b ∧ b ≤ 10 ^ 90 ∧ c ≤ 1000000 ∧
  ∀ v' d' H', But p H H' → PotAt H' p → Th K p H' v' d' → Wg d' (N + 3) (2 * c + 40000) (b + 1) → Q v' H'
theorem _law_bent_z (vs : List V) (H : Hp) (Q : VK) (E : XK) : ¬ spBent K 0 vs H Q E := by
  rintro ⟨p, v, d, k, N, c, b, _, _, _, _, h1, _⟩
  omega
theorem k__law_bent_rec (D : Df K mg "_law_bent" s__law_bent ["_law_pot_here", "_law_thing", "_law_deep"]) (D__law_draw : Dn P w K mg base 1 "_law_draw" ["_law_pot_here", "_law_many"] spTake) (D__law_other : Dn P w K mg base 3 "_law_other" ["_law_pot_here", "_law_thing"] (spOther K)) : ∀ n : Nat, Dn P w K mg base (4 + n) "_law_bent" ["_law_pot_here", "_law_thing", "_law_deep"] ((spBent K) n) := by
  intro n
  induction n with
  | zero => exact D.ok fun f fd F => ⟨fun vs H Q E h => (_law_bent_z B vs H Q E h).elim, fun _ _ _ _ h => (_law_bent_z B _ _ _ _ h).elim⟩
  | succ n D__law_bent =>
    refine D.ok fun f fd F => okG0 (k := 4 + n) F sc__law_bent (fun vs H Q E h => ?_) (fun cdv A outer s H vs Q E hr h => ⟨_, (pss_cons (ps_set (i := 3) sc__law_bent.nd rfl (Or.inl rfl) (pe_cD D__law_draw (hr.less (by omega)) rfl (pa_cons (pv 0) (pa_cons pe_int pa_nil))))
    (pss_cons (ps_if (PW.pt (pw_or (pt_not (pt_val (pe_callB (kk (K := K) (F := rIsi) (P := CallR _ _) call_isi) (by rfl) B.isinstance_ (by decide +kernel) (pa_cons (pv 1) (pa_cons (pe_bltn (v := .ty "tuple") (u := .type "tuple") (by rfl) B.tuple_ (by decide +kernel) rfl) pa_nil))))) (pw_or (pt_cmpR op_eq (pv 2) pe_int (nomark _)) (pw_or1 (pt_cmpR op_eq (pv 3) pe_int (nomark _))))))
      (pss_one (ps_ret (pe_cD D__law_other (hr.less (by omega)) rfl (pa_cons (pv 0) (pa_cons (pv 1) pa_nil)))))
      pss_nil)
    (pss_cons (ps_set (i := 4) sc__law_bent.nd rfl (Or.inl rfl) (pe_cD D__law_draw (hr.less (by omega)) rfl (pa_cons (pv 0) (pa_cons (pe_op op_add (pe_callB (lenK (K := K)) (by rfl) B.len_ (by decide +kernel) (pa_cons (pv 1) pa_nil)) pe_int) pa_nil))))
    (pss_cons (ps_if (pt_cmpR op_eq (pv 3) pe_int (nomark _))
      (pss_one (ps_ret (pe_callTy (lstOfS (K := K)) (by rfl) B.list_ (by decide +kernel) (pa_cons (pv 1) pa_nil))))
      pss_nil)
    (pss_cons (ps_if (pt_cmpR op_eq (pv 3) pe_int (nomark _))
      (pss_one (ps_ret (pe_op op_catU (pe_op op_catU (pe_slice sl_tupU (pv 1) po_none (po_some (pv 4))) (pe_tup (pa_cons (pe_cD D__law_other (hr.less (by omega)) rfl (pa_cons (pv 0) (pa_cons pe_int pa_nil))) pa_nil))) (pe_slice sl_tupU (pv 1) (po_some (pv 4)) po_none))))
      pss_nil)
    (pss_cons (ps_if (pt_cmpR op_eq (pv 3) pe_int (nomark _))
      (pss_one (ps_ret (pe_op op_catU (pe_op op_catU (pe_slice sl_tupU (pv 1) po_none (po_some (pv 4))) (pe_slice sl_tupU (pv 1) (po_some (pv 4)) (po_some (pe_op op_add (pv 4) pe_int)))) (pe_slice sl_tupU (pv 1) (po_some (pv 4)) po_none))))
      pss_nil)
    (pss_cons (ps_if (PW.pt (pw_or (pt_cmpR op_eq (pv 3) pe_int (nomark _)) (pw_or1 (pt_cmpR op_eq (pv 4) (pe_callB (lenK (K := K)) (by rfl) B.len_ (by decide +kernel) (pa_cons (pv 1) pa_nil)) (nomark _)))))
      (pss_one (ps_ret (pe_op op_catU (pe_slice sl_tupU (pv 1) po_none (po_some (pv 4))) (pe_slice sl_tupU (pv 1) (po_some (pe_op op_add (pv 4) pe_int)) po_none))))
      pss_nil)
    (pss_one (ps_ret (pe_op op_catU (pe_op op_catU (pe_slice sl_tupU (pv 1) po_none (po_some (pv 4))) (pe_tup (pa_cons (pe_cD D__law_bent (hr.less (by omega)) rfl (pa_cons (pv 0) (pa_cons (pe_ix (kk (K := K) (F := rIxT) (P := IxR _) ix_tup) (pv 1) (pv 4) (fun _ _ => rfl)) (pa_cons (pe_op op_sub (pv 2) pe_int) pa_nil)))) pa_nil))) (pe_slice sl_tupU (pv 1) (po_some (pe_op op_add (pv 4) pe_int)) po_none))))))))))), ?_⟩)
    · obtain ⟨p, v, d, k, N, c, b, rfl, _⟩ := h; rfl
    · obtain ⟨p, v, d, k, N, c, b, rfl, hp, hd, hw, kn, k40, b1, b2, hc, q⟩ := h
      try walk_at "go"
      intro e0 H1 e1 e2 be1 p1
      obtain ⟨e, rfl⟩ : ∃ e : Nat, e0 = (e : Int) := ⟨e0.toNat, by omega⟩
      have hd1 := hd.but be1 hp.choose_spec.choose_spec.1
      have ty := hd1.ty
      have k1 := kit_tu (K := K) d
      have fin : ∀ v' d' H', But p H1 H' → PotAt H' p → Th K p H' v' d' → Wg d' (N + 3) (2 * c + 40000) (b + 1) → Q v' H' := fun v' d' H' be pe th w => q v' d' H' (be1.trans be) pe th w
      have w1 : ∀ d', Wg d' (N + 2) (c + 30000) (b + 1) → Wg d' (N + 3) (2 * c + 40000) (b + 1) := fun d' w => w.mono (by omega) (by omega) (Nat.le_refl _)
      cases ed : isTu d with
      | false =>
        rw [ed] at k1
        try walk_at "go"
        intro v' d' H' be pe th w
        exact fin v' d' H' be pe th (w1 d' w)
      | true =>
        rw [ed] at k1
        obtain ⟨ds, rfl⟩ := isTu_inv ed
        obtain ⟨a, tr, rfl, rfl, ha, htr⟩ := hd1.tup_inv
        try walk_at "go"
        refine ite2 (fun c1 => ?_) (fun c1 => ?_)
        · try walk_at "go"
          intro v' d' H' be pe th w
          exact fin v' d' H' be pe th (w1 d' w)
        have k0 : k ≠ 0 := fun z => c1 (by subst z; rfl)
        try walk_at "go"
        refine ite2 (fun c2 => ?_) (fun c2 => ?_)
        · try walk_at "go"
          intro v' d' H' be pe th w
          exact fin v' d' H' be pe th (w1 d' w)
        have hun := hw.untup
        have hlen := wts_len (tr.map fun t => t.2)
        rw [List.length_map] at hlen
        have hl2 := hun.len
        have lm : (tr.map fun t => t.1).length = tr.length := List.length_map _
        try walk_at "go"
        intro f0 H2 f1 f2 be2 p2
        rw [lm] at f2
        obtain ⟨at', rfl⟩ : ∃ at' : Nat, f0 = (at' : Int) := ⟨f0.toNat, by omega⟩
        have hp1 := p1.choose_spec.choose_spec.1
        have ha2 := pot_keep be2 p1 _ _ ha
        have htr2 : ∀ t ∈ tr, Th K p H2 t.1 t.2 := fun t ht => (htr t ht).but be2 hp1
        try walk_at "go"
        have htr0 : ∀ (xs : List (V × PyData)), (∀ t ∈ xs, t ∈ tr) → ∀ H', But p H2 H' → ∀ t ∈ xs, Th K p H' t.1 t.2 := fun xs h H' be t ht => (htr2 t (h t ht)).but be p2.choose_spec.choose_spec.1
        have atl : at' ≤ tr.length := by omega
        have w0 : Wg (.int 0) 0 1921 b := ⟨Nat.zero_le _, Nat.le_refl _, Nat.zero_le _⟩
        have tk : ∀ t ∈ tr.take at', t ∈ tr := fun t => List.mem_of_mem_take
        have dk : ∀ t ∈ tr.drop at', t ∈ tr := fun t => List.mem_of_mem_drop
        have wsp : Wgs ((tr.take at').map fun t => t.2) (N - 1) (c - 4) b ∧ Wgs ((tr.drop at').map fun t => t.2) (N - 1) (c - 4) b := Wgs.sub (by rw [← List.map_append, List.take_append_drop]; exact hun)
        have lt1 : (tr.take at').length ≤ tr.length := by rw [List.length_take]; omega
        have lt2 : (tr.drop at').length ≤ tr.length := by rw [List.length_drop]; omega
        have lm1 : ((tr.take at').map fun t => t.1).length = (tr.take at').length := List.length_map _
        have lm2 : ((tr.drop at').map fun t => t.1).length = (tr.drop at').length := List.length_map _
        have slz : 3000000 ≤ sizeLine := by decide
        refine ite2 (fun c3 => ?_) (fun c3 => ?_)
        · try walk_at "go"
          intro L hL
          generalize eH3 : upd _ L _ = H3
          have SH3 := newS eH3 hL
          have oL := newO eH3
          intro s3
          refine fin _ (.list (tr.map fun t => t.2)) H3 (be2.trans (same_but SH3)) (p2.same SH3) ?_ ?_
          · exact Th.lst (pot_ne p2 hL) s3 oL (htr0 tr (fun t h => h) H3 (same_but SH3))
          · exact (Wg.lst hun).mono (by omega) (by omega) (by omega)
        try walk_at "go"
        have wsp1 : Wgs ((tr.drop (at' + 1)).map fun t => t.2) (N - 1) (c - 4) b := (Wgs.sub (xs := (tr.take (at' + 1)).map fun t => t.2) (by rw [← List.map_append, List.take_append_drop]; exact hun)).2
        have lt3 : (tr.drop (at' + 1)).length ≤ tr.length := by rw [List.length_drop]; omega
        have lm3 : ((tr.drop (at' + 1)).map fun t => t.1).length = (tr.drop (at' + 1)).length := List.length_map _
        have lt4 : ((tr.drop at').take 1).length ≤ 1 := by rw [List.length_take]; omega
        have lm4 : (((tr.drop at').take 1).map fun t => t.1).length = ((tr.drop at').take 1).length := List.length_map _
        have dk1 : ∀ t ∈ tr.drop (at' + 1), t ∈ tr := fun t => List.mem_of_mem_drop
        have dk2 : ∀ t ∈ (tr.drop at').take 1, t ∈ tr := fun t h => List.mem_of_mem_drop (List.mem_of_mem_take h)
        have wsp2 : Wgs (((tr.drop at').take 1).map fun t => t.2) (N - 1) (c - 4) b := (Wgs.sub (ys := ((tr.drop at').drop 1).map fun t => t.2) (by rw [← List.map_append, List.take_append_drop]; exact wsp.2)).1
        have at1 : ((at' : Int) + 1) = ((at' + 1 : Nat) : Int) := by omega
        have endT : ∀ (xs : List (V × PyData)) (T : Addr) (H' : Hp), But p H2 H' → PotAt H' p → H' T = some (.tup (xs.map fun t => t.1)) → (∀ t ∈ xs, Th K p H' t.1 t.2) → Wgs (xs.map fun t => t.2) (N + 2) (2 * c + 39990) (b + 1) → Q (.ref T) H' := fun xs T H' be pe o th w => fin _ _ H' (be2.trans be) pe (Th.tup o th) ((Wg.tup w).mono (by omega) (by omega) (Nat.le_refl _))
        refine ite2 (fun c4 => ?_) (fun c4 => ?_)
        · try walk_at "go"
          intro T1 H3 S3 o3
          rw [cut_toU, ← List.map_take] at o3
          have th0 : Th K p H3 (.int 0) (.int 0) := .int 0
          have p3 := p2.same S3
          try walk_at "go"
          intro v' d' H4 b4 p4 th4 w4
          have a4 := pot_keep b4 p3 _ _ (S3 _ _ ha2)
          have o4 := pot_keep b4 p3 _ _ o3
          try walk_at "go"
          intro U hU
          generalize eH5 : upd _ U _ = H5
          have SH5 := newS eH5 hU
          have oU := newO eH5
          have o5 := SH5 _ _ o4
          try walk_at "go"
          intro T2 H6 S6 o6
          try walk_at "go"
          intro T3 H7 S7 o7
          rw [cut_fromU, ← List.map_drop] at o7
          have o67 := S7 _ _ o6
          try walk_at "go"
          intro T4 H8 S8 o8
          have bb : But p H4 H8 := same_but (SH5.trans (S6.trans (S7.trans S8)))
          have b28 := (same_but S3).trans (b4.trans bb)
          refine endT (tr.take at' ++ [(v', d')] ++ tr.drop at') T4 H8 b28 (p4.same (SH5.trans (S6.trans (S7.trans S8)))) (by rw [o8, List.map_append, List.map_append] <;> rfl) ?_ ?_
          · intro t ht
            rcases List.mem_append.mp ht with ht | ht
            · rcases List.mem_append.mp ht with ht | ht
              · exact htr0 _ tk H8 b28 t ht
              · cases List.mem_singleton.mp ht
                exact th4.same (SH5.trans (S6.trans (S7.trans S8)))
            · exact htr0 _ dk H8 b28 t ht
          · rw [List.map_append, List.map_append]
            refine (((wsp.1.mono (by omega) (Nat.le_refl _) (by omega)).app (Wgs.cons (w4.mono (by omega) (Nat.le_refl _) (Nat.le_refl _)) (Wgs.nil (c := 0)))).app (wsp.2.mono (by omega) (Nat.le_refl _) (by omega))).mono (Nat.le_refl _) (by omega) (Nat.le_refl _)
        try walk_at "go"
        refine ite2 (fun c5 => ?_) (fun c5 => ?_)
        · try walk_at "go"
          intro T1 H3 S3 o3
          rw [cut_toU, ← List.map_take] at o3
          have a3 := S3 _ _ ha2
          try walk_at "go"
          intro T2 H4 S4 o4
          rw [at1, cut_midU _ _ (by rw [lm]; exact atl), Nat.add_sub_cancel_left, ← List.map_drop, ← List.map_take] at o4
          have o34 := S4 _ _ o3
          have a4 := S4 _ _ a3
          try walk_at "go"
          intro T3 H5 S5 o5
          have a5 := S5 _ _ a4
          try walk_at "go"
          intro T4 H6 S6 o6
          rw [cut_fromU, ← List.map_drop] at o6
          have o56 := S6 _ _ o5
          try walk_at "go"
          intro T5 H7 S7 o7
          have SS := S3.trans (S4.trans (S5.trans (S6.trans S7)))
          refine endT (tr.take at' ++ (tr.drop at').take 1 ++ tr.drop at') T5 H7 (same_but SS) (p2.same SS) (by rw [o7, List.map_append, List.map_append] <;> rfl) ?_ ?_
          · intro t ht
            rcases List.mem_append.mp ht with ht | ht
            · rcases List.mem_append.mp ht with ht | ht
              · exact htr0 _ tk H7 (same_but SS) t ht
              · exact htr0 _ dk2 H7 (same_but SS) t ht
            · exact htr0 _ dk H7 (same_but SS) t ht
          · rw [List.map_append, List.map_append]
            have z1 := Wgs.sub (xs := (tr.take at').map fun t => t.2) (ys := (tr.drop at').map fun t => t.2) (n := N - 1) (c := c - 4) (b := b) (by rw [← List.map_append, List.take_append_drop]; exact hun)
            have z2 : wts ((tr.take at').map fun t => t.2) + wts ((tr.drop at').map fun t => t.2) ≤ c - 4 := by
              have := hun.len
              rw [← List.take_append_drop at' tr, List.map_append, wts_app] at this
              exact this
            refine (((wsp.1.ex.mono (by omega) (Nat.le_refl _) (by omega)).app (wsp2.mono (by omega) (Nat.le_refl _) (by omega))).app (wsp.2.ex.mono (by omega) (Nat.le_refl _) (by omega))).mono (Nat.le_refl _) (by omega) (Nat.le_refl _)
        try walk_at "go"
        have del : ∀ (T1 T2 T3 : Addr) (H' : Hp), Same H2 H' → H' T3 = some (.tup (((tr.take at').map fun t => t.1) ++ ((tr.drop (at' + 1)).map fun t => t.1))) → Q (.ref T3) H' := fun T1 T2 T3 H' SS o => by
          refine endT (tr.take at' ++ tr.drop (at' + 1)) T3 H' (same_but SS) (p2.same SS) (by rw [o, List.map_append]) ?_ ?_
          · intro t ht
            rcases List.mem_append.mp ht with ht | ht
            · exact htr0 _ tk H' (same_but SS) t ht
            · exact htr0 _ dk1 H' (same_but SS) t ht
          · rw [List.map_append]
            refine ((wsp.1.mono (by omega) (Nat.le_refl _) (by omega)).app (wsp1.mono (by omega) (Nat.le_refl _) (by omega))).mono (Nat.le_refl _) (by omega) (Nat.le_refl _)
        refine ite2 (fun c6 => ?_) (fun c6 => ?_)
        · refine ifT rfl ?_
          try walk_at "go"
          intro T1 H3 S3 o3
          rw [cut_toU, ← List.map_take] at o3
          have a3 := S3 _ _ ha2
          try walk_at "go"
          intro T2 H4 S4 o4
          rw [at1, cut_fromU, ← List.map_drop] at o4
          have o34 := S4 _ _ o3
          try walk_at "go"
          intro T3 H5 S5 o5
          exact del T1 T2 T3 H5 (S3.trans (S4.trans S5)) o5
        try walk_at "go"
        refine ite2 (fun c7 => ?_) (fun c7 => ?_)
        · try walk_at "go"
          intro T1 H3 S3 o3
          rw [cut_toU, ← List.map_take] at o3
          have a3 := S3 _ _ ha2
          try walk_at "go"
          intro T2 H4 S4 o4
          rw [at1, cut_fromU, ← List.map_drop] at o4
          have o34 := S4 _ _ o3
          try walk_at "go"
          intro T3 H5 S5 o5
          exact del T1 T2 T3 H5 (S3.trans (S4.trans S5)) o5
        have atl2 : at' < tr.length := Nat.lt_of_le_of_ne atl fun z => c7 (by rw [lm, z]; exact decide_eq_true rfl)
        try walk_at "go"
        intro T1 H3 S3 o3
        rw [cut_toU, ← List.map_take] at o3
        have a3 := S3 _ _ ha2
        have p3 := p2.same S3
        have ix : atI (tr.map fun t => t.1) (at' : Int) = some tr[at'].1 := atI_nat (by rw [List.getElem?_map, List.getElem?_eq_getElem atl2] <;> rfl)
        have wm := (hun.mem (List.mem_map_of_mem (f := fun t => t.2) (List.getElem_mem atl2))).ex
        have th3 := (htr2 _ (List.getElem_mem atl2)).same S3
        try walk_at "go"
        refine ⟨(show [V.ref p, tr[at'].1, V.int ((k : Int) - 1)] = [V.ref p, tr[at'].1, V.int ((k - 1 : Nat) : Int)] by rw [show (k : Int) - 1 = ((k - 1 : Nat) : Int) by omega]), p3, th3, wm, by omega, by omega, b1, b2, ?_, fun v' d' H4 b4 p4 th4 w4 => ?_⟩
        · have := (hun.mem (List.mem_map_of_mem (f := fun t => t.2) (List.getElem_mem atl2))).len
          omega
        have N1 : 1 ≤ N := Nat.le_trans (Nat.le_add_left _ _) (show PyData.depthAll (tr.map fun t => t.2) + 1 ≤ N from hw.dep)
        have a4 := pot_keep b4 p3 _ _ a3
        have o4 := pot_keep b4 p3 _ _ o3
        try walk_at "go"
        intro U hU
        generalize eH5 : upd _ U _ = H5
        have SH5 := newS eH5 hU
        have oU := newO eH5
        have o5 := SH5 _ _ o4
        try walk_at "go"
        intro T2 H6 S6 o6
        try walk_at "go"
        intro T3 H7 S7 o7
        rw [at1, cut_fromU, ← List.map_drop] at o7
        have o67 := S7 _ _ o6
        try walk_at "go"
        intro T4 H8 S8 o8
        have SS := SH5.trans (S6.trans (S7.trans S8))
        have b28 := (same_but S3).trans (b4.trans (same_but SS))
        refine endT (tr.take at' ++ [(v', d')] ++ tr.drop (at' + 1)) T4 H8 b28 (p4.same SS) (by rw [o8, List.map_append, List.map_append] <;> rfl) ?_ ?_
        · intro t ht
          rcases List.mem_append.mp ht with ht | ht
          · rcases List.mem_append.mp ht with ht | ht
            · exact htr0 _ tk H8 b28 t ht
            · cases List.mem_singleton.mp ht
              exact th4.same SS
          · exact htr0 _ dk1 H8 b28 t ht
        · have z2 : wts ((tr.take at').map fun t => t.2) + (wt tr[at'].2 + 4 + wts ((tr.drop (at' + 1)).map fun t => t.2)) ≤ c - 4 := by
            have := hun.len
            rw [← List.take_append_drop at' tr, List.map_append, wts_app, List.drop_eq_getElem_cons atl2] at this
            exact this
          have w5 := w4.ex.len
          have w6 : wt d' ≤ 2 * wt tr[at'].2 + 40000 := w4.len
          rw [List.map_append, List.map_append]
          exact (((wsp.1.ex.mono (by omega) (Nat.le_refl _) (by omega)).app (Wgs.cons (w4.ex.mono (by omega) (Nat.le_refl _) (Nat.le_refl _)) (Wgs.nil (c := 0)))).app (wsp1.ex.mono (by omega) (Nat.le_refl _) (by omega))).mono (Nat.le_refl _) (by omega) (Nat.le_refl _)
theorem k__law_bent (D : Df K mg "_law_bent" s__law_bent ["_law_pot_here", "_law_thing", "_law_deep"]) (D__law_draw : Dn P w K mg base 1 "_law_draw" ["_law_pot_here", "_law_many"] spTake) (D__law_other : Dn P w K mg base 3 "_law_other" ["_law_pot_here", "_law_thing"] (spOther K)) : Dn P w K mg base 45 "_law_bent" ["_law_pot_here", "_law_thing", "_law_deep"] ((spBent K) 41) := k__law_bent_rec B D D__law_draw D__law_other 41
def spSpoilt (K : PySem.W.Frag) : Sp := fun vs H Q _ => ∃ (p : Addr) (v : V) (d : PyData) (k N c b : Nat), vs = [.ref p, v, .int k] ∧ PotAt H p ∧ Th K p H v d ∧ Wg d N c b ∧ k ≤ 40 ∧ 10 ^ 29 ≤ b ∧ b + 2 ≤ 10 ^ 90 ∧ c ≤ 480000 ∧
  ∀ v' d' H', But p H H' → PotAt H' p → Th K p H' v' d' → Wg d' (N + 6) (4 * c + 120000) (b + 2) → Q v' H'
theorem k__law_spoilt (D : Df K mg "_law_spoilt" s__law_spoilt ["_law_pot_here", "_law_thing", "_law_deep"]) (D__law_draw : Dn P w K mg base 1 "_law_draw" ["_law_pot_here", "_law_many"] spTake) (D__law_bent : Dn P w K mg base 45 "_law_bent" ["_law_pot_here", "_law_thing", "_law_deep"] ((spBent K) 41)) : Dn P w K mg base 46 "_law_spoilt" ["_law_pot_here", "_law_thing", "_law_deep"] (spSpoilt K) := by
  refine D.ok fun f fd F => okG0 F sc__law_spoilt (fun vs H Q E h => ?_) (fun cdv A outer s H vs Q E hr h => ⟨_, (pss_cons (ps_set (i := 3) sc__law_spoilt.nd rfl (Or.inl rfl) (pe_cD D__law_draw (hr.less (by decide)) rfl (pa_cons (pv 0) (pa_cons pe_int pa_nil))))
    (pss_cons (ps_for PassesOwn.never rfl (pi_range1 (by rfl) B.range_ (pa_cons (pe_callB (call_min2 rfl) (by rfl) B.min_ (by decide +kernel) (pa_cons (pv 3) (pa_cons pe_int pa_nil))) pa_nil)) (pg_name (i := 4) sc__law_spoilt.nd rfl (Or.inl rfl))
      (pss_one (ps_set (i := 1) sc__law_spoilt.nd rfl (Or.inl rfl) (pe_cD D__law_bent (hr.less (by decide)) rfl (pa_cons (pv 0) (pa_cons (pv 1) (pa_cons (pv 2) pa_nil)))))))
    (pss_one (ps_ret (pv 1))))), ?_⟩)
  · obtain ⟨p, v, d, k, N, c, b, rfl, _⟩ := h; rfl
  · obtain ⟨p, v, d, k, N, c, b, rfl, hp, hd, hw, k40, b1, b2, hc, q⟩ := h
    try walk_at "go"
    intro times H1 t0 t1 be1 p1
    have hd1 := hd.but be1 hp.choose_spec.choose_spec.1
    try walk_at "go"
    have n2 : (if (2 : Int) < times then (2 : Int) else times).toNat ≤ 2 := by split <;> omega
    refine for_range (lo := 0) (n := (if (2 : Int) < times then (2 : Int) else times).toNat) (fun i σ H' => ∃ (v' : V) (d' : PyData) (s4 : Option V), σ = [some (.ref p), some v', some (.int k), some (.int times), s4] ∧ But p H1 H' ∧ PotAt H' p ∧ Th K p H' v' d' ∧ i ≤ 2 ∧ Wg d' (N + 3 * i) ((c + 40000) * 2 ^ i - 40000) (b + i)) ⟨v, d, _, rfl, But.refl, p1, hd1, by omega, hw.mono (by omega) (by show c ≤ (c + 40000) * 1 - 40000; omega) (by omega)⟩ ?_ ?_
    · rintro i σ H' hi ⟨v', d', s4, rfl, b13, p13, hth, i2, hw'⟩
      have ci : (c + 40000) * 2 ^ i - 40000 ≤ 1000000 := by
        rcases (show i = 0 ∨ i = 1 by omega) with rfl | rfl
        · show (c + 40000) * 1 - 40000 ≤ 1000000; omega
        · show (c + 40000) * 2 - 40000 ≤ 1000000; omega
      have bi : b + i ≤ 10 ^ 90 := by omega
      try walk_at "go"
      intro v2 d2 H14 b14 p14 th14 w14
      refine ⟨v2, d2, _, rfl, b13.trans b14, p14, th14, by omega, w14.mono (by omega) ?_ (by omega)⟩
      rcases (show i = 0 ∨ i = 1 by omega) with rfl | rfl
      · show 2 * ((c + 40000) * 1 - 40000) + 40000 ≤ (c + 40000) * 2 - 40000; omega
      · show 2 * ((c + 40000) * 2 - 40000) + 40000 ≤ (c + 40000) * 4 - 40000; omega
    rintro σ H13 ⟨v', d', s4, rfl, b13, p13, hth, i2, hw'⟩
    try walk_at "go"
    refine q v' d' H13 (be1.trans b13) p13 hth (hw'.mono (by omega) ?_ (by omega))
    generalize (if (2 : Int) < times then (2 : Int) else times).toNat = nn at i2
    rcases (show nn = 0 ∨ nn = 1 ∨ nn = 2 by omega) with rfl | rfl | rfl
    · show (c + 40000) * 1 - 40000 ≤ _; omega
    · show (c + 40000) * 2 - 40000 ≤ _; omega
    · show (c + 40000) * 4 - 40000 ≤ _; omega
/-! SPLIT -/
def spTold (K : PySem.W.Frag) : Sp := fun vs H Q _ => ∃ (p : Addr), vs = [.ref p] ∧ PotAt H p ∧ ∀ H', But p H H' → Q (.bl true) H'
theorem k__law_truths_told (D : Df K mg "_law_truths_told" s__law_truths_told ["_law_pot_here"]) (D__law_draw : Dn P w K mg base 1 "_law_draw" ["_law_pot_here", "_law_many"] spTake) (D__law_board : Dn P w K mg base 3 "_law_board" ["_law_pot_here"] spBoard) (D__law_asks : Dn P w K mg base 4 "_law_asks" ["_law_pot_here", "_law_board_here", "_law_most"] spAsks) (D__law_by_truths : Dn P w K mg base 8 "_law_by_truths" ["_law_thing"] ((spByTT K) 6)) (D_is_board : Dn P w K mg base 2 "is_board" ["thing"] (spBdT K)) (D_are_asks : Dx P w K mg base 5 "are_asks" ["board", "thing"] (spAsT K (cAt mg "NoBoard"))) (D__law_word : Dn P w K mg base 6 "_law_word" ["_law_board_here", "_law_thing"] (spWordT K)) : Dn P w K mg base 50 "_law_truths_told" ["_law_pot_here"] (spTold K) := by
  refine D.ok fun f fd F => okG0 F sc__law_truths_told (fun vs H Q E h => ?_) (fun cdv A outer s H vs Q E hr h => ⟨_, (pss_cons (ps_set (i := 1) sc__law_truths_told.nd rfl (Or.inl rfl) (pe_op op_catU (pe_tup (pa_cons (pe_cD D__law_draw (hr.less (by decide)) rfl (pa_cons (pv 0) (pa_cons pe_int pa_nil))) pa_nil)) (pe_slice sl_tupU (pe_cD D__law_board (hr.less (by decide)) rfl (pa_cons (pv 0) pa_nil)) (po_some pe_int) po_none)))
    (pss_cons (ps_set (i := 2) sc__law_truths_told.nd rfl (Or.inl rfl) (pe_op op_catU (pe_tup (pa_cons (pe_tup (pa_cons (pe_cD D__law_draw (hr.less (by decide)) rfl (pa_cons (pv 0) (pa_cons pe_int pa_nil))) (pa_cons pe_int (pa_cons (pe_tup (pa_cons (pe_cD D__law_draw (hr.less (by decide)) rfl (pa_cons (pv 0) (pa_cons pe_int pa_nil))) (pa_cons pe_non (pa_cons pe_non pa_nil)))) pa_nil)))) pa_nil)) (pe_cD D__law_asks (hr.less (by decide)) rfl (pa_cons (pv 0) (pa_cons (pv 1) (pa_cons pe_int pa_nil))))))
    (pss_cons (ps_par (i := 3) (j := 4) rfl sc__law_truths_told.nd rfl rfl (by decide) rfl rfl (pa_cons (pe_cD D__law_by_truths (hr.less (by decide)) rfl (pa_cons (pv 1) pa_nil)) (pa_cons (pe_cD D__law_by_truths (hr.less (by decide)) rfl (pa_cons (pv 2) pa_nil)) pa_nil)) (by rfl))
    (pss_cons (ps_set (i := 5) sc__law_truths_told.nd rfl (Or.inl rfl) (pe_lstS pa_nil))
    (pss_cons (ps_for PassesOwn.never rfl (pi_range1 (by rfl) B.range_ (pa_cons pe_int pa_nil)) (pg_name (i := 6) sc__law_truths_told.nd rfl (Or.inl rfl))
      (pss_cons (ps_expr (kk (K := K) (F := fun K => tBM K "list" _ _ _) (P := PE _ _) (pe_bm PySem.F.plainAttrs_list PySem.F.slot_list_extend PySem.F.type_list_extend mt_extend (pv 5) (pa_cons (pe_lstS (pa_cons (pe_cD D_is_board (hr.less (by decide)) rfl (pa_cons (pv 1) pa_nil)) (pa_cons (pe_cD D_is_board (hr.less (by decide)) rfl (pa_cons (pv 3) pa_nil)) (pa_cons (pe_cXn D_are_asks (hr.less (by decide)) rfl (pa_cons (pv 1) (pa_cons (pv 2) pa_nil))) (pa_cons (pe_cXn D_are_asks (hr.less (by decide)) rfl (pa_cons (pv 1) (pa_cons (pv 4) pa_nil))) pa_nil))))) pa_nil))))
      (pss_one (ps_expr (kk (K := K) (F := fun K => tBM K "list" _ _ _) (P := PE _ _) (pe_bm PySem.F.plainAttrs_list PySem.F.slot_list_append PySem.F.type_list_append mt_append (pv 5) (pa_cons (pe_cD D__law_word (hr.less (by decide)) rfl (pa_cons (pv 3) (pa_cons (pv 2) pa_nil))) pa_nil)))))))
    (pss_one (ps_ret (pe_cmpR op_eq (pe_callB (reprO (K := K) hr) (by rfl) B.repr_ (by decide +kernel) (pa_cons (pv 5) pa_nil)) (pe_callB (reprO (K := K) hr) (by rfl) B.repr_ (by decide +kernel) (pa_cons (pe_op op_repS (pe_lstS (pa_cons pe_bl (pa_cons pe_bl (pa_cons pe_bl (pa_cons pe_bl (pa_cons pe_str pa_nil)))))) pe_int) pa_nil)) (nomark _))))))))), ?_⟩)
  · obtain ⟨p, rfl, _⟩ := h; rfl
  · obtain ⟨p, rfl, hp, q⟩ := h
    try walk_at "go"
    intro e H1 e0 e1 b1 p1
    try walk_at "go"
    intro A0 hA0
    generalize eH2 : upd _ A0 _ = H2
    have SH2 := newS eH2 hA0
    have oA0 := newO eH2
    have p2 := p1.same SH2
    try walk_at "go"
    intro bA bs H3 b3 p3 nb hb hw
    have oA3 := b3 _ _ (ne_of oA0 p2.choose_spec.choose_spec.1 (by intro z; cases z)) oA0
    have hb3 := hb.1
    try walk_at "go"
    intro T1 H4 S4 oT1
    rw [show (some 1 : Option Int) = some ((1 : Nat) : Int) from rfl, cut_fromU, ← List.map_drop] at oT1
    have oA4 := S4 _ _ oA3
    have lz1 : [V.int e].length + ((bs.drop 1).map V.int).length ≤ sizeLine := by
      have h2 := hb.2.2
      rw [List.length_map, List.length_drop]
      show 1 + (bs.length - 1) ≤ sizeLine
      exact Nat.le_trans (show 1 + (bs.length - 1) ≤ 100 by omega) (by decide)
    try walk_at "go"
    intro bA' H5 S5 oB
    obtain ⟨bs', ebs⟩ : ∃ bs' : List Int, bs' = e :: bs.drop 1 := ⟨_, rfl⟩
    have hB5 : BoardAt H5 bA' bs' := by
      have h1 := hb.2.1
      have h2 := hb.2.2
      refine ⟨by rw [oB, ebs] <;> rfl, ?_, ?_⟩
      · rw [ebs, List.length_cons]; omega
      · rw [ebs, List.length_cons, List.length_drop]; omega
    have p5 := p3.same (S4.trans S5)
    have B5 : But p H H5 := b1.trans ((same_but SH2).trans (b3.trans (same_but (S4.trans S5))))
    clear oB oT1 oA4 oA3 hb3 hb lz1
    try walk_at "go"
    intro h0 H6 h00 h01 b6 p6
    try walk_at "go"
    intro a0 H7 a00 a01 b7 p7
    try walk_at "go"
    intro D0 hD0
    generalize eH8 : upd _ D0 _ = H8
    have SH8 := newS eH8 hD0
    have oD0 := newO eH8
    try walk_at "go"
    intro K0 hK0
    generalize eH9 : upd _ K0 _ = H9
    have SH9 := newS eH9 hK0
    have oK0 := newO eH9
    try walk_at "go"
    intro R0 hR0
    generalize eH10 : upd _ R0 _ = H10
    have SH10 := newS eH10 hR0
    have oR0 := newO eH10
    have B10 : But p H5 H10 := b6.trans (b7.trans (same_but (SH8.trans (SH9.trans SH10))))
    have p10 := p7.same (SH8.trans (SH9.trans SH10))
    have hB10 : BoardAt H10 bA' bs' := ⟨B10 _ _ (ne_of hB5.1 p5.choose_spec.choose_spec.1 (by intro z; cases z)) hB5.1, hB5.2⟩
    have oK10 := SH10 _ _ oK0
    have oD10 := SH10 _ _ (SH9 _ _ oD0)
    try walk_at "go"
    intro kA as H11 b11 p11 nk hk
    have ne11 : ∀ {x : Addr} {xs : List V}, H10 x = some (.tup xs) → H11 x = some (.tup xs) := fun {x xs} h => b11 _ _ (ne_of h p10.choose_spec.choose_spec.1 (by intro z; cases z)) h
    have hB11 : BoardAt H11 bA' bs' := ⟨ne11 hB10.1, hB10.2⟩
    have oK11 := ne11 oK10
    have oD11 := ne11 oD10
    have oR11 := ne11 oR0
    have hk11 := hk.1
    have lz2 : [V.ref K0].length + (as.map fun x => V.ref x.a).length ≤ sizeLine := by
      have := hk.2.1
      rw [List.length_map]
      show 1 + as.length ≤ sizeLine
      exact Nat.le_trans (show 1 + as.length ≤ 100 by omega) (by decide)
    try walk_at "go"
    intro kA' H12 S12 oA
    have hB12 := hB11.same S12
    have tB : ∀ q : Addr, Th K q H12 (.ref bA') (intsD bs') := fun q => ints_th hB12.1
    obtain ⟨a1, ea1⟩ : ∃ d : PyData, d = .tuple [.int h0, .int 0, .tuple [.int a0, .none, .none]] := ⟨_, rfl⟩
    have tK : ∀ q : Addr, Th K q H12 (.ref K0) a1 := fun q => by
      rw [ea1]
      refine Th.tup (tr := [(.int h0, .int h0), (.int 0, .int 0), (.ref D0, .tuple [.int a0, .none, .none])]) (S12 _ _ oK11) fun t ht => ?_
      simp only [List.mem_cons, List.not_mem_nil, or_false] at ht
      rcases ht with rfl | rfl | rfl
      · exact .int _
      · exact .int _
      · refine Th.tup (tr := [(.int a0, .int a0), (.non, .none), (.non, .none)]) (S12 _ _ oD11) fun t ht => ?_
        simp only [List.mem_cons, List.not_mem_nil, or_false] at ht
        rcases ht with rfl | rfl | rfl
        · exact .int _
        · exact .non
        · exact .non
    obtain ⟨ad, ead⟩ : ∃ d : PyData, d = .tuple (a1 :: as.map Ak.pd) := ⟨_, rfl⟩
    have tA : ∀ q : Addr, Th K q H12 (.ref kA') ad := fun q => by
      rw [ead]
      have := Th.tup (K := K) (p := q) (H := H12) (a := kA') (tr := (V.ref K0, a1) :: as.map fun x => (V.ref x.a, x.pd)) (by rw [oA, List.map_cons, List.map_map] <;> rfl) fun t ht => by
        rcases List.mem_cons.mp ht with rfl | ht
        · exact tK q
        · obtain ⟨x, hx, rfl⟩ := List.mem_map.mp ht
          exact ((hk.2.2 x hx).same S12).th
      rw [List.map_cons, List.map_map] at this
      exact this
    have lfA : lf ad = true := by
      rw [ead]
      show (lf a1 && lfs (as.map Ak.pd)) = true
      rw [ea1, show lfs (as.map Ak.pd) = true from lf_ak (as := as)] <;> rfl
    have wa1 : Wg a1 2 9649 (10 ^ 80) := by
      rw [ea1]
      refine ⟨Nat.le_refl _, by show (1921 + 4 + (1921 + 4 + ((1921 + 4 + (5 + 4 + (5 + 4 + 0)) + 4) + 4 + 0))) + 4 ≤ 9649; decide, ?_⟩
      show max h0.natAbs (max 0 (max (max a0.natAbs (max 0 (max 0 0))) 0)) ≤ 10 ^ 80
      omega
    have wad : Wg ad 3 500000 (10 ^ 80) := by
      rw [ead]
      exact (Wg.tup (Wgs.cons wa1 (asks_wg hk hB11.2.2).untup)).mono (Nat.le_refl _) (by decide) (Nat.le_refl _)
    have nzA : nsz ad ≤ 1000000 := Nat.le_trans (nsz_wt _) (Nat.le_trans wad.len (by decide))
    have dpA : ad.depth + 1 ≤ 6 := by have := wad.dep; omega
    have dpB : (intsD bs').depth + 1 ≤ 6 := by
      show PyData.depthAll (bs'.map PyData.int) + 1 + 1 ≤ 6
      rw [(ints_dn bs').1]
      decide
    have nzB : nsz (intsD bs') ≤ 1000000 := by
      show 1 + nszs (bs'.map PyData.int) ≤ 1000000
      rw [(ints_dn bs').2]
      have := hB12.2.2
      omega
    have lfB : lf (intsD bs') = true := lf_ints
    have p12 := p11.same S12
    have tB0 := tB p
    have tA0 := tA p
    have B12 : But p H H12 := B5.trans (B10.trans (b11.trans (same_but S12)))
    try walk_at "go"
    intro v3 H13 S13 t3
    have tA13 := tA0.same S13
    try walk_at "go"
    intro v4 H14 S14 t4
    try walk_at "go"
    intro L hL
    generalize eH15 : upd _ L _ = H15
    have SH15 := newS eH15 hL
    have oL := newO eH15
    intro sL
    have tB15 := tB0.same (S13.trans (S14.trans SH15))
    have tA15 := tA13.same (S14.trans SH15)
    have t315 := t3.same (S14.trans SH15)
    have t415 := t4.same SH15
    have p15 := p12.same (S13.trans (S14.trans SH15))
    have nLp : L ≠ p := pot_ne (p12.same (S13.trans S14)) hL
    have oB15 := (S13.trans (S14.trans SH15)) _ _ hB12.1
    have lf3 : lf (byT (intsD bs')) = true := byT_lf _ lfB
    have lf4 : lf (byT ad) = true := byT_lf _ lfA
    have yB : isBd (intsD bs') = true := isBd_ints hB12.2.1 hB12.2.2
    have yB3 : isBd (byT (intsD bs')) = false := by rw [ebs]; exact isBd_t e0 e1
    have yA4 : ∀ nb, isAs nb (byT ad) = false := fun nb => by rw [ead, ea1]; exact isAs_t h00 h01
    have yA : isAs (bs'.map PyData.int).length ad = true := by
      rw [ead]
      show (isAk _ a1 && (as.map Ak.pd).all (isAk _)) = true
      rw [Bool.and_eq_true]
      refine ⟨?_, ?_⟩
      · rw [ea1, List.length_map]
        show (true && (true && ((decide (0 ≤ h0) && decide (h0 < 16)) && ((true && decide ((0 : Int) < (bs'.length : Int))) && true)))) = true
        have := hB12.2.1
        rw [decide_eq_true h00, decide_eq_true (show h0 < 16 by omega), decide_eq_true (show (0 : Int) < (bs'.length : Int) by omega)] <;> rfl
      · rw [List.length_map]
        exact isAs_ak hk
    have nz4 : nsz (byT ad) ≤ 1000000 := by rw [byT_nsz]; exact nzA
    try walk_at "go"
    refine for_range (lo := 0) (n := 2) (fun i σ H' => ∃ (s6 : Option V), σ = [some (.ref p), some (.ref bA'), some (.ref kA'), some v3, some v4, some (.ref L), s6] ∧ But L H15 H' ∧ PotAt H' p ∧ H' L = some (.lst (List.replicate i toldV).flatten)) ⟨_, rfl, But.refl, p15, oL⟩ ?_ ?_
    · rintro i σ H16 hi ⟨s6, rfl, b16, p16, hL16⟩
      have tB16 := tB15.butL lfB b16 oL
      have tA16 := tA15.butL lfA b16 oL
      have t316 := t315.butL lf3 b16 oL
      have t416 := t415.butL lf4 b16 oL
      try walk_at "go"
      intro H17 S17
      have t317 := t316.same S17
      try walk_at "go"
      intro H18 S18
      have tB18 := tB16.same (S17.trans S18)
      have tA18 := tA16.same (S17.trans S18)
      try walk_at "go"
      refine ⟨fun n ds ed el _ H19 S19 => ?_, fun z => by rw [yB] at z; cases z⟩
      have en : n = (bs'.map PyData.int).length := by cases ed; exact el.symm
      subst en
      rw [yA]
      have tB19 := tB18.same S19
      have t419 := t416.same (S17.trans (S18.trans S19))
      try walk_at "go"
      refine ⟨fun n ds ed el _ H20 S20 => ?_, fun z => by rw [yB] at z; cases z⟩
      rw [yA4, yB, yB3]
      have S1620 := S17.trans (S18.trans (S19.trans S20))
      have hL20 := S1620 _ _ hL16
      have t320 := t316.same S1620
      have tA20 := tA16.same S1620
      try walk_at "go"
      intro E hE
      generalize eH21 : upd _ E _ = H21
      have SH21 := newS eH21 hE
      have oE := newO eH21
      intro sE
      have hL21 := SH21 _ _ hL20
      have ll : (List.replicate i toldV).flatten.length ≤ 100 := by
        rw [List.length_flatten, List.map_replicate, List.sum_replicate_nat]
        show i * 5 ≤ 100
        omega
      have slz : 3000000 ≤ sizeLine := by decide
      try walk_at "go"
      generalize eH22 : upd H21 L (HO.lst ((List.replicate i toldV).flatten ++ [V.bl true, V.bl false, V.bl true, V.bl false])) = H22
      have BH22 : But L H21 H22 := eH22 ▸ But.upd
      have oH22 : H22 L = some (HO.lst ((List.replicate i toldV).flatten ++ [V.bl true, V.bl false, V.bl true, V.bl false])) := eH22 ▸ upd_same
      have t322 := (t320.same SH21).butL lf3 BH22 hL21
      have tA22 := (tA20.same SH21).butL lfA BH22 hL21
      try walk_at "go"
      refine ⟨fun n ds ed el z => (by rw [yB3] at z; cases z), fun _ H23 S23 => ?_⟩
      have hL23 := S23 _ _ oH22
      try walk_at "go"
      have p21 := p16.same (S1620.trans SH21)
      have p22 : PotAt H22 p := by
        obtain ⟨x, y, g1, g2⟩ := p21
        exact ⟨x, y, BH22 _ _ nLp.symm g1, g2⟩
      exact ⟨b16.trans ((same_but (S1620.trans SH21)).trans (BH22.trans ((same_but S23).trans But.upd))), (p22.same S23).upd nLp.symm, by rw [upd_same, List.replicate_succ', List.flatten_append, List.append_assoc] <;> rfl⟩
    rintro σ H16 ⟨s6, rfl, b16, p16, hL16⟩
    have th16 := told_th (K := K) nLp sL hL16
    obtain ⟨ts1, ts2, ts3⟩ := told_sh
    try walk_at "go"
    intro E hE
    generalize eH17 : upd _ E _ = H17
    have SH17 := newS eH17 hE
    have oE := newO eH17
    intro sE
    try walk_at "go"
    intro G hG sG
    generalize eH18 : upd H17 G _ = H18
    have SH18 : Same H17 H18 := eH18 ▸ same_new hG _
    have oG : H18 G = some (.lst (toldV ++ toldV)) := eH18 ▸ upd_same
    have th18 := told_th (K := K) (pot_ne (p16.same SH17) hG) sG oG
    try walk_at "go"
    rw [dec_self]
    exact q _ (B12.trans (same_but (S13.trans (S14.trans ((but_same hL SH15 b16).trans (SH17.trans SH18))))))
/-! SPLIT -/
def spRight (K : PySem.W.Frag) : Sp := fun vs H Q _ => ∃ (p : Addr), vs = [.ref p] ∧ PotAt H p ∧ ∀ H', But p H H' → Q (.bl true) H'
theorem k__law_right (D : Df K mg "_law_right" s__law_right ["_law_pot_here"]) (D__law_board : Dn P w K mg base 3 "_law_board" ["_law_pot_here"] spBoard) (D__law_asks : Dn P w K mg base 4 "_law_asks" ["_law_pot_here", "_law_board_here", "_law_most"] spAsks) (D__law_spoilt : Dn P w K mg base 46 "_law_spoilt" ["_law_pot_here", "_law_thing", "_law_deep"] (spSpoilt K)) (D_is_board : Dn P w K mg base 2 "is_board" ["thing"] (spBdT K)) (D_are_asks : Dx P w K mg base 5 "are_asks" ["board", "thing"] (spAsT K (cAt mg "NoBoard"))) (D__law_is_board : Dn P w K mg base 2 "_law_is_board" ["_law_thing"] (spLBdT K)) (D__law_are_asks : Dn P w K mg base 5 "_law_are_asks" ["_law_board_here", "_law_thing"] (spLAsT K)) (D__law_word : Dn P w K mg base 6 "_law_word" ["_law_board_here", "_law_thing"] (spWordT K)) (D__law_truths_told : Dn P w K mg base 50 "_law_truths_told" ["_law_pot_here"] (spTold K)) : Dn P w K mg base 55 "_law_right" ["_law_pot_here"] (spRight K) := by
  refine D.ok fun f fd F => okG0 F sc__law_right (fun vs H Q E h => ?_) (fun cdv A outer s H vs Q E hr h => ⟨_, (pss_cons (ps_set (i := 1) sc__law_right.nd rfl (Or.inl rfl) (pe_cD D__law_board (hr.less (by decide)) rfl (pa_cons (pv 0) pa_nil)))
    (pss_cons (ps_set (i := 2) sc__law_right.nd rfl (Or.inl rfl) (pe_cD D__law_asks (hr.less (by decide)) rfl (pa_cons (pv 0) (pa_cons (pv 1) (pa_cons pe_int pa_nil)))))
    (pss_cons (ps_set (i := 3) sc__law_right.nd rfl (Or.inl rfl) (pe_cD D__law_spoilt (hr.less (by decide)) rfl (pa_cons (pv 0) (pa_cons (pv 1) (pa_cons pe_int pa_nil)))))
    (pss_cons (ps_set (i := 4) sc__law_right.nd rfl (Or.inl rfl) (pe_cD D__law_spoilt (hr.less (by decide)) rfl (pa_cons (pv 0) (pa_cons (pv 2) (pa_cons pe_int pa_nil)))))
    (pss_cons (ps_set (i := 5) sc__law_right.nd rfl (Or.inl rfl) (pe_callB (reprO (K := K) hr) (by rfl) B.repr_ (by decide +kernel) (pa_cons (pe_lstS (pa_cons (pv 3) (pa_cons (pv 4) pa_nil))) pa_nil)))
    (pss_cons (ps_for PassesOwn.never rfl (pi_range1 (by rfl) B.range_ (pa_cons pe_int pa_nil)) (pg_name (i := 6) sc__law_right.nd rfl (Or.inl rfl))
      (pss_cons (ps_set (i := 7) sc__law_right.nd rfl (Or.inl rfl) (pe_lstS (pa_cons (pe_cD D_is_board (hr.less (by decide)) rfl (pa_cons (pv 3) pa_nil)) (pa_cons (pe_cD D_is_board (hr.less (by decide)) rfl (pa_cons (pv 1) pa_nil)) (pa_cons (pe_cXn D_are_asks (hr.less (by decide)) rfl (pa_cons (pv 1) (pa_cons (pv 4) pa_nil))) (pa_cons (pe_cXn D_are_asks (hr.less (by decide)) rfl (pa_cons (pv 1) (pa_cons (pv 2) pa_nil))) pa_nil))))))
      (pss_cons (ps_if (pt_cmpR op_ne (pe_callB (reprO (K := K) hr) (by rfl) B.repr_ (by decide +kernel) (pa_cons (pv 7) pa_nil)) (pe_callB (reprO (K := K) hr) (by rfl) B.repr_ (by decide +kernel) (pa_cons (pe_lstS (pa_cons (pe_cD D__law_is_board (hr.less (by decide)) rfl (pa_cons (pv 3) pa_nil)) (pa_cons pe_bl (pa_cons (pe_cD D__law_are_asks (hr.less (by decide)) rfl (pa_cons (pv 1) (pa_cons (pv 4) pa_nil))) (pa_cons pe_bl pa_nil))))) pa_nil)) (nomark _))
        (pss_one (ps_ret pe_bl))
        pss_nil)
      (pss_cons (ps_set (i := 8) sc__law_right.nd rfl (Or.inl rfl) pe_str)
      (C8.pss_cut (ps_if (pt_val (pe_cD D__law_is_board (hr.less (by decide)) rfl (pa_cons (pv 3) pa_nil)))
        (pss_one (ps_set (i := 8) sc__law_right.nd rfl (Or.inl rfl) (pe_cD D__law_are_asks (hr.less (by decide)) rfl (pa_cons (pv 3) (pa_cons (pv 4) pa_nil)))))
        pss_nil)
      (pss_one (ps_if (pt_cmpR op_ne (pe_callB (reprO (K := K) hr) (by rfl) B.repr_ (by decide +kernel) (pa_cons (pe_cD D__law_word (hr.less (by decide)) rfl (pa_cons (pv 3) (pa_cons (pv 4) pa_nil))) pa_nil)) (pe_callB (reprO (K := K) hr) (by rfl) B.repr_ (by decide +kernel) (pa_cons (pv 8) pa_nil)) (nomark _))
       (pss_one (ps_ret pe_bl))
       pss_nil)))))))
    (pss_one (ps_ret (pe_and (pe_cmpR op_eq (pe_callB (reprO (K := K) hr) (by rfl) B.repr_ (by decide +kernel) (pa_cons (pe_lstS (pa_cons (pv 3) (pa_cons (pv 4) pa_nil))) pa_nil)) (pv 5) (nomark _)) (pe_one (pe_cD D__law_truths_told (hr.less (by decide)) rfl (pa_cons (pv 0) pa_nil)))))))))))), ?_⟩)
  · obtain ⟨p, rfl, _⟩ := h; rfl
  · obtain ⟨p, rfl, hp, q⟩ := h
    try walk_at "go"
    intro bA bs H1 b1 p1 nb hb hw
    try walk_at "go"
    intro kA as H2 b2 p2 nk hk
    have hb2 : BoardAt H2 bA bs := ⟨b2 _ _ (ne_of hb.1 p1.choose_spec.choose_spec.1 (by intro z; cases z)) hb.1, hb.2⟩
    have wB : Wg (intsD bs) 1 400000 (10 ^ 80) := (ints_wg (b := 10 ^ 80) (m := 16) (fun x hx => by have := hw x hx; omega) hb.2.2).mono (Nat.le_refl _) (by decide) (Nat.le_refl _)
    have wA : Wg (akD as) 3 400000 (10 ^ 80) := (asks_wg hk hb.2.2).mono (Nat.le_refl _) (by decide) (Nat.le_refl _)
    have tB2 : Th K p H2 (.ref bA) (intsD bs) := ints_th hb2.1
    have tA2 : Th K p H2 (.ref kA) (akD as) := hk.th
    have q29 : 10 ^ 29 ≤ 10 ^ 80 := by decide
    have q90 : 10 ^ 80 + 2 ≤ 10 ^ 90 := by decide
    try walk_at "go"
    intro v3 d3 H3 b3 p3 t3 w3
    have tA3 := tA2.but b3 p2.choose_spec.choose_spec.1
    have tB3 := tB2.but b3 p2.choose_spec.choose_spec.1
    try walk_at "go"
    intro v4 d4 H4 b4 p4 t4 w4
    have tA4 := tA3.but b4 p3.choose_spec.choose_spec.1
    have tB4 := tB3.but b4 p3.choose_spec.choose_spec.1
    have t34 := t3.but b4 p3.choose_spec.choose_spec.1
    have B4 : But p H H4 := b1.trans (b2.trans (b3.trans b4))
    have nz4 : nsz d4 ≤ 2000000 := Nat.le_trans (nsz_wt _) (Nat.le_trans w4.len (by decide))
    obtain ⟨kd, ekd⟩ : ∃ kd : PyData, kd = .list [d3, d4] := ⟨_, rfl⟩
    have wk : Wg kd 12 5000000 (10 ^ 80 + 2) := by
      rw [ekd]
      exact (Wg.lst (Wgs.cons (w3.mono (n' := 11) (by decide) (Nat.le_refl _) (Nat.le_refl _)) (Wgs.cons (w4.mono (n' := 11) (by decide) (Nat.le_refl _) (Nat.le_refl _)) (Wgs.nil (c := 0))))).mono (Nat.le_refl _) (by decide) (Nat.le_refl _)
    have ks : kd.showable = true := wk.shw
    have kdep : kd.depth ≤ 60 := Nat.le_trans wk.dep (by decide)
    have kz : kd.shown.length ≤ sizeLine := wk.sz
    have tkd : ∀ (H' : Hp) (M : Addr), M ≠ p → M ≠ sysModules → H' M = some (.lst [v3, v4]) → Th K p H' v3 d3 → Th K p H' v4 d4 → Th K p H' (.ref M) kd := fun H' M n1 n2 h g3 g4 => by
      rw [ekd]
      refine Th.lst (tr := [(v3, d3), (v4, d4)]) n1 n2 h fun t ht => ?_
      simp only [List.mem_cons, List.not_mem_nil, or_false] at ht
      rcases ht with rfl | rfl
      · exact g3
      · exact g4
    try walk_at "go"
    intro M hM
    generalize eH5 : upd _ M _ = H5
    have SH5 := newS eH5 hM
    have oM := newO eH5
    intro sM
    have tk5 := tkd H5 M (pot_ne p4 hM) sM oM (t34.same SH5) (t4.same SH5)
    try walk_at "go"
    have bz : ∀ x y u w : Bool, (PyData.list [.bool x, .bool y, .bool u, .bool w]).shown.length ≤ sizeLine := fun x y u w => shown_wz rfl (by show 5 + 4 + (5 + 4 + (5 + 4 + (5 + 4 + 0))) + 4 ≤ 10000000; decide)
    have bs4 : ∀ x y u w : Bool, (PyData.list [.bool x, .bool y, .bool u, .bool w]).showable = true := fun x y u w => rfl
    have bd : ∀ x y u w : Bool, (PyData.list [.bool x, .bool y, .bool u, .bool w]).depth ≤ 60 := fun x y u w => by show 1 ≤ 60; decide
    have bT : ∀ (H' : Hp) (T : Addr) (x y u w : Bool), T ≠ p → T ≠ sysModules → H' T = some (.lst [.bl x, .bl y, .bl u, .bl w]) → Th K p H' (.ref T) (.list [.bool x, .bool y, .bool u, .bool w]) := fun H' T x y u w n1 n2 h => Th.lst (tr := [(.bl x, .bool x), (.bl y, .bool y), (.bl u, .bool u), (.bl w, .bool w)]) n1 n2 h fun t ht => by
      simp only [List.mem_cons, List.not_mem_nil, or_false] at ht
      rcases ht with rfl | rfl | rfl | rfl <;> exact .bl _
    have yB : isBd (intsD bs) = true := isBd_ints hb.2.1 hb.2.2
    have yA : isAs (bs.map PyData.int).length (akD as) = true := by rw [List.length_map]; exact isAs_ak hk
    have nzA : nsz (akD as) ≤ 1000000 := Nat.le_trans (nsz_wt _) (Nat.le_trans wA.len (by decide))
    have oB5 := SH5 _ _ ((b3.trans b4) _ _ (ne_of hb2.1 p2.choose_spec.choose_spec.1 (by intro z; cases z)) hb2.1)
    have l16 : (bs.map V.int).length ≤ 16 := by rw [List.length_map]; exact hb.2.2
    have p5 := p4.same SH5
    have t35 := t34.same SH5
    have t45 := t4.same SH5
    have tA5 := tA4.same SH5
    have tB5 := tB4.same SH5
    refine for_range (lo := 0) (n := 2) (fun i σ H' => ∃ (s6 s7 s8 : Option V), σ = [some (.ref p), some (.ref bA), some (.ref kA), some v3, some v4, some (.str kd.shown), s6, s7, s8] ∧ Same H5 H') ⟨_, _, _, rfl, Same.refl _⟩ ?_ ?_
    · rintro i σ H6 hi ⟨s6, s7, s8, rfl, S6⟩
      have t36 := t35.same S6
      try walk_at "go"
      intro H7 S7
      have tB7 := (tB5.same S6).same S7
      try walk_at "go"
      intro H8 S8
      have tB8 := tB7.same S8
      have t48 := ((t45.same S6).same S7).same S8
      try walk_at "go"
      refine ⟨fun n ds ed el _ H9 S9 => ?_, fun z => by rw [yB] at z; cases z⟩
      have en : n = (bs.map PyData.int).length := by cases ed; exact el.symm
      subst en
      have tB9 := tB8.same S9
      have tA9 := (((tA5.same S6).same S7).same S8).same S9
      try walk_at "go"
      refine ⟨fun n ds ed el _ H10 S10 => ?_, fun z => by rw [yB] at z; cases z⟩
      have en : n = (bs.map PyData.int).length := by cases ed; exact el.symm
      subst en
      rw [yA, yB]
      have S610 := S7.trans (S8.trans (S9.trans S10))
      try walk_at "go"
      intro T1 hT1
      generalize eH11 : upd _ T1 _ = H11
      have SH11 := newS eH11 hT1
      have oT1 := newO eH11
      intro s11
      have p10 := p5.same (S6.trans S610)
      have th1 := bT H11 T1 _ _ _ _ (pot_ne p10 hT1) s11 oT1
      have z1 := bz (isBd d3) true (isAs (bs.map PyData.int).length d4) true
      have z2 := bs4 (isBd d3) true (isAs (bs.map PyData.int).length d4) true
      have z3 := bd (isBd d3) true (isAs (bs.map PyData.int).length d4) true
      have t311 := t36.same (S610.trans SH11)
      try walk_at "go"
      intro H12 S12
      have oB12 := (S6.trans (S610.trans (SH11.trans S12))) _ _ oB5
      have t412 := t45.same (S6.trans (S610.trans (SH11.trans S12)))
      try walk_at "go"
      intro H13 S13
      try walk_at "go"
      intro T2 hT2
      generalize eH14 : upd _ T2 _ = H14
      have SH14 := newS eH14 hT2
      have oT2 := newO eH14
      intro s14
      have p13 := p10.same (SH11.trans (S12.trans S13))
      have th2 := bT H14 T2 _ _ _ _ (pot_ne p13 hT2) s14 oT2
      rw [List.length_map (f := V.int), ← List.length_map (f := PyData.int)] at th2
      try walk_at "go"
      refine ifF (dec_ne rfl) ?_
      try walk_at "go"
      have S614 := S610.trans (SH11.trans (S12.trans (S13.trans SH14)))
      refine ⟨fun σ H' => ∃ dv : V, σ = [some (.ref p), some (.ref bA), some (.ref kA), some v3, some v4, some (.str kd.shown), some (.int (0 + (i : Int))), some (.ref T1), some dv] ∧ Same H14 H' ∧ dv = if isBd d3 then .bl (isAs (tlen d3) d4) else .str "board", ?_, ?_⟩
      · have t314 := t36.same S614
        have t414 := t45.same (S6.trans S614)
        try walk_at "go"
        intro H15 S15
        cases e : isBd d3 with
        | false =>
          try walk_at "go"
          rfl
        | true =>
          obtain ⟨ds, rfl, l1, l2, l3⟩ := isBd_tu e
          obtain ⟨b, br, rfl, rfl, hb', hbr⟩ := t314.tup_inv
          have hb15 := S15 _ _ hb'
          have l16' : (br.map fun t => t.1).length ≤ 16 := by rw [len_map1]; rw [len_map2] at l2; exact l2
          have t415 := t414.same S15
          try walk_at "go"
          intro H16 S16
          exact ⟨_, rfl, S15.trans S16, by rw [if_pos rfl]; show V.bl _ = V.bl (isAs (br.map fun t => t.2).length d4); rw [len_map1, len_map2]⟩
      rintro _ H15 ⟨dv, rfl, S15, edv⟩
      have S615 := S614.trans S15
      have t315 := t36.same S615
      have t415 := t45.same (S6.trans S615)
      have bok : ∀ b : Bool, (PyData.bool b).showable = true ∧ (PyData.bool b).depth ≤ 60 ∧ (PyData.bool b).shown.length ≤ sizeLine := fun b => ⟨rfl, Nat.zero_le _, shown_wz rfl (by show 5 ≤ 10000000; decide)⟩
      have sok : (PyData.str "board").showable = true ∧ (PyData.str "board").depth ≤ 60 ∧ (PyData.str "board").shown.length ≤ sizeLine := ⟨rfl, Nat.zero_le _, shown_wz rfl (by decide +kernel)⟩
      try walk_at "go"
      refine ⟨fun n ds ed el z H17 S17 => ?_, fun z H17 S17 => ?_⟩
      · have en : n = tlen d3 := by rw [ed]; exact el.symm
        subst en
        rw [z, if_pos rfl] at edv
        subst edv
        obtain ⟨y1, y2, y3⟩ := bok (isAs (tlen d3) d4)
        have tb : Th K p H17 (.bl (isAs (tlen d3) d4)) (.bool (isAs (tlen d3) d4)) := .bl _
        try walk_at "go"
        refine ifF (dec_ne rfl) ?_
        exact ⟨_, _, _, rfl, S6.trans (S615.trans S17)⟩
      · rw [z, if_neg (by decide)] at edv
        subst edv
        obtain ⟨y1, y2, y3⟩ := sok
        have tb : Th K p H17 (.str "board") (.str "board") := .str _
        try walk_at "go"
        refine ifF (dec_ne rfl) ?_
        exact ⟨_, _, _, rfl, S6.trans (S615.trans S17)⟩
    rintro σ H6 ⟨s6, s7, s8, rfl, S6⟩
    have t36 := t35.same S6
    have t46 := t45.same S6
    try walk_at "go"
    intro M2 hM2
    generalize eH7 : upd _ M2 _ = H7
    have SH7 := newS eH7 hM2
    have oM2 := newO eH7
    intro sM2
    have tk7 := tkd H7 M2 (pot_ne (p5.same S6) hM2) sM2 oM2 (t36.same SH7) (t46.same SH7)
    have p7 := p5.same (S6.trans SH7)
    try walk_at "go"
    refine ifT (decide_eq_true rfl) ?_
    try walk_at "go"
    intro H8 b8
    exact q _ (B4.trans ((same_but (SH5.trans (S6.trans SH7))).trans b8))
def spLaw (K : PySem.W.Frag) : Sp := fun vs H Q _ => ∃ (a : Addr) (ns : List Int), vs = [.ref a] ∧ SqL K H a (ns.map V.int) ∧ ns.length ≤ 63 ∧ ∀ H', Q (.bl true) H'
theorem k_law {f : Addr} {fd : FuncData} (F : Fun K "law" "law" s_law f fd) (D__law_pot : Dn P w K mg base 1 "_law_pot" ["_law_script", "_law_k"] (spPot2 K)) (D__law_right : Dn P w K mg base 55 "_law_right" ["_law_pot_here"] (spRight K)) : FnG P w K mg base CX0 56 f fd ["_law_script"] (spLaw K) := by
  refine okG0 F sc_law (fun vs H Q E h => ?_) (fun cdv A outer s H vs Q E hr h => ⟨_, (pss_one (ps_ret (pe_callB (kk (K := K) (F := rAll) (P := CallR _ _) (cr_all rfl)) (by rfl) B.all_ (by decide +kernel) (pa_cons (pe_lc (own := [("_law_k", 1)]) (g := gName 1) (tt := tYes) rfl sc_law.nd (pi_range1 (by rfl) B.range_ (pa_cons (pe_callB (call_max2 rfl) (by rfl) B.max_ (by decide +kernel) (pa_cons pe_int (pa_cons (pe_callB (call_min2 rfl) (by rfl) B.min_ (by decide +kernel) (pa_cons (pe_callB (lenK (K := K)) (by rfl) B.len_ (by decide +kernel) (pa_cons (pv 0) pa_nil)) (pa_cons pe_int pa_nil))) pa_nil))) pa_nil)) (blkOk_by (own := [("_law_k", 1)]) (N := ["_law_script", "_law_k"]) (sc := defScope s_law) (by decide +kernel)) (fun _ _ _ _ _ => (pg_name (i := 1) sc_law.nd rfl (Or.inl rfl))) (fun _ _ _ _ _ => pts_nil) (fun _ _ _ _ _ => (pe_cD D__law_right (hr.less (by decide)) rfl (pa_cons (pe_cD D__law_pot (hr.less (by decide)) rfl (pa_cons (pv 0) (pa_cons (pv 1) pa_nil))) pa_nil)))) pa_nil)))), ?_⟩)
  · obtain ⟨a, ns, rfl, _⟩ := h; rfl
  · obtain ⟨a, ns, rfl, hs, hn, q⟩ := h
    refine ⟨_, rfl, a, _, rfl, .inl hs, _, _, rfl, _, _, rfl, _, rfl, ?_, ?_, fun D hD => ?_⟩
    · split <;> split <;> omega
    · split <;> split <;> omega
    have hN : (if (if (8 : Int) < ((ns.map V.int).length : Nat) then (8 : Int) else ((ns.map V.int).length : Nat)) > 1 then (if (8 : Int) < ((ns.map V.int).length : Nat) then (8 : Int) else ((ns.map V.int).length : Nat)) else 1).toNat ≤ 8 := by split <;> split <;> omega
    generalize (if (if (8 : Int) < ((ns.map V.int).length : Nat) then (8 : Int) else ((ns.map V.int).length : Nat)) > 1 then (if (8 : Int) < ((ns.map V.int).length : Nat) then (8 : Int) else ((ns.map V.int).length : Nat)) else 1).toNat = n at hN
    refine lc_range (lo := 0) (n := n) (fun i H2 => Same H H2 ∧ H2 D = some (.lst ((List.replicate i true).map V.bl))) ⟨same_new hD _, upd_same⟩ ?_ ?_
    · rintro i H2 hi ⟨S2, hD2⟩
      refine ⟨rfl, ?_⟩
      refine ⟨_, rfl, _, rfl, a, ns, i, by show [V.ref a, V.int (0 + (i : Int))] = _; rw [Int.zero_add], S2.seq hs, by omega, fun p H3 np S3 p3 => ?_⟩
      refine ⟨p, rfl, p3, fun H4 b4 => ?_⟩
      have S4 := but_same np S3 b4
      exact ⟨_, S4 _ _ hD2, by rw [rep_len]; exact small1000 (by omega), but_same hD (S2.trans S4) But.upd, by rw [upd_same, rep_snoc]⟩
    · rintro H2 ⟨S2, hD2⟩
      refine ⟨D, _, rfl, SqL.of hD2, ?_⟩
      rw [rep_all]
      exact q _
end
structure AllD (K : PySem.W.Frag) (mg : Str → Option Value) : Prop where
  d_is_whole : Df K mg "is_whole" s_is_whole ["thing"]
  d_is_row_of : Df K mg "is_row_of" s_is_row_of ["thing", "many"]
  d_is_end : Df K mg "is_end" s_is_end ["thing"]
  d_is_deed : Df K mg "is_deed" s_is_deed ["thing"]
  d_is_board : Df K mg "is_board" s_is_board ["thing"]
  d_want_board : Df K mg "want_board" s_want_board ["board"]
  d_is_ask : Df K mg "is_ask" s_is_ask ["board", "thing"]
  d_are_asks : Df K mg "are_asks" s_are_asks ["board", "thing"]
  d__law_pot : Df K mg "_law_pot" s__law_pot ["_law_script", "_law_k"]
  d__law_draw : Df K mg "_law_draw" s__law_draw ["_law_pot_here", "_law_many"]
  d__law_number : Df K mg "_law_number" s__law_number ["_law_pot_here"]
  d__law_deed : Df K mg "_law_deed" s__law_deed ["_law_pot_here"]
  d__law_board : Df K mg "_law_board" s__law_board ["_law_pot_here"]
  d__law_asks : Df K mg "_law_asks" s__law_asks ["_law_pot_here", "_law_board_here", "_law_most"]
  d__law_is_whole : Df K mg "_law_is_whole" s__law_is_whole ["_law_thing"]
  d__law_is_deed : Df K mg "_law_is_deed" s__law_is_deed ["_law_thing"]
  d__law_is_board : Df K mg "_law_is_board" s__law_is_board ["_law_thing"]
  d__law_is_ask : Df K mg "_law_is_ask" s__law_is_ask ["_law_board_here", "_law_thing"]
  d__law_are_asks : Df K mg "_law_are_asks" s__law_are_asks ["_law_board_here", "_law_thing"]
  d__law_other : Df K mg "_law_other" s__law_other ["_law_pot_here", "_law_thing"]
  d__law_bent : Df K mg "_law_bent" s__law_bent ["_law_pot_here", "_law_thing", "_law_deep"]
  d__law_spoilt : Df K mg "_law_spoilt" s__law_spoilt ["_law_pot_here", "_law_thing", "_law_deep"]
  d__law_word : Df K mg "_law_word" s__law_word ["_law_board_here", "_law_thing"]
  d__law_by_truths : Df K mg "_law_by_truths" s__law_by_truths ["_law_thing"]
  d__law_truths_told : Df K mg "_law_truths_told" s__law_truths_told ["_law_pot_here"]
  d__law_right : Df K mg "_law_right" s__law_right ["_law_pot_here"]
  d_law : Df K mg "law" s_law ["_law_script"]
  bl : Bl K mg
theorem all_mk {w : World} {K : PySem.W.Frag} {h : Heap} {mg : Str → Option Value} (X : K.In h) (G : h.Ns mainGlobals mg)
    {f1 f2 f3 f4 f5 f6 f7 f8 f9 f10 f11 f12 f13 f14 f15 f16 f17 f18 f19 f20 f21 f22 f23 f24 f25 f26 f27 : Addr} {od1 an1 od2 an2 od3 an3 od4 an4 od5 an5 od6 an6 od7 an7 od8 an8 od9 an9 od10 an10 od11 an11 od12 an12 od13 an13 od14 an14 od15 an15 od16 an16 od17 an17 od18 an18 od19 an19 od20 an20 od21 an21 od22 an22 od23 an23 od24 an24 od25 an25 od26 an26 od27 an27 : Option Addr} {sl1 sl2 sl3 sl4 sl5 sl6 sl7 sl8 sl9 sl10 sl11 sl12 sl13 sl14 sl15 sl16 sl17 sl18 sl19 sl20 sl21 sl22 sl23 sl24 sl25 sl26 sl27 : Array (Option Value)} {oc1 kV1 dc1 pm1 cd1 ct1 oc2 kV2 dc2 pm2 cd2 ct2 oc3 kV3 dc3 pm3 cd3 ct3 oc4 kV4 dc4 pm4 cd4 ct4 oc5 kV5 dc5 pm5 cd5 ct5 oc6 kV6 dc6 pm6 cd6 ct6 oc7 kV7 dc7 pm7 cd7 ct7 oc8 kV8 dc8 pm8 cd8 ct8 oc9 kV9 dc9 pm9 cd9 ct9 oc10 kV10 dc10 pm10 cd10 ct10 oc11 kV11 dc11 pm11 cd11 ct11 oc12 kV12 dc12 pm12 cd12 ct12 oc13 kV13 dc13 pm13 cd13 ct13 oc14 kV14 dc14 pm14 cd14 ct14 oc15 kV15 dc15 pm15 cd15 ct15 oc16 kV16 dc16 pm16 cd16 ct16 oc17 kV17 dc17 pm17 cd17 ct17 oc18 kV18 dc18 pm18 cd18 ct18 oc19 kV19 dc19 pm19 cd19 ct19 oc20 kV20 dc20 pm20 cd20 ct20 oc21 kV21 dc21 pm21 cd21 ct21 oc22 kV22 dc22 pm22 cd22 ct22 oc23 kV23 dc23 pm23 cd23 ct23 oc24 kV24 dc24 pm24 cd24 ct24 oc25 kV25 dc25 pm25 cd25 ct25 oc26 kV26 dc26 pm26 cd26 ct26 oc27 kV27 dc27 pm27 cd27 ct27 : Value}
    {E0 : Addr} (aE0 : PySem.W.nsIn K mainGlobals "AskError" = some (some (.ref E0))) (xE0 : PySem.W.excIn K E0 [.type "ValueError", .type "Exception", .type "BaseException", .type "object"] "ValueError.__new__" = true) (kE0 : PySem.W.keepIn K (.ref E0) = true) (bE0 : PySem.W.subIn K (.ref E0) (.type "BaseException") = some true) (tE0 : PySem.W.typeIn K (.ref E0) = some (.type "type")) (iE0 : PySem.W.isClsIn K E0 = true)
    {E1 : Addr} (aE1 : PySem.W.nsIn K mainGlobals "NoAsk" = some (some (.ref E1))) (xE1 : PySem.W.excIn K E1 [.type "ValueError", .type "Exception", .type "BaseException", .type "object"] "ValueError.__new__" = true) (kE1 : PySem.W.keepIn K (.ref E1) = true) (bE1 : PySem.W.subIn K (.ref E1) (.type "BaseException") = some true) (tE1 : PySem.W.typeIn K (.ref E1) = some (.type "type")) (iE1 : PySem.W.isClsIn K E1 = true)
    {E2 : Addr} (aE2 : PySem.W.nsIn K mainGlobals "NoBoard" = some (some (.ref E2))) (xE2 : PySem.W.excIn K E2 [.type "ValueError", .type "Exception", .type "BaseException", .type "object"] "ValueError.__new__" = true) (kE2 : PySem.W.keepIn K (.ref E2) = true) (bE2 : PySem.W.subIn K (.ref E2) (.type "BaseException") = some true) (tE2 : PySem.W.typeIn K (.ref E2) = some (.type "type")) (iE2 : PySem.W.isClsIn K E2 = true)
    {E3 : Addr} (aE3 : PySem.W.nsIn K mainGlobals "NoCalls" = some (some (.ref E3))) (xE3 : PySem.W.excIn K E3 [.type "ValueError", .type "Exception", .type "BaseException", .type "object"] "ValueError.__new__" = true) (kE3 : PySem.W.keepIn K (.ref E3) = true) (bE3 : PySem.W.subIn K (.ref E3) (.type "BaseException") = some true) (tE3 : PySem.W.typeIn K (.ref E3) = some (.type "type")) (iE3 : PySem.W.isClsIn K E3 = true)
    {E4 : Addr} (aE4 : PySem.W.nsIn K mainGlobals "NoDeed" = some (some (.ref E4))) (xE4 : PySem.W.excIn K E4 [.type "ValueError", .type "Exception", .type "BaseException", .type "object"] "ValueError.__new__" = true) (kE4 : PySem.W.keepIn K (.ref E4) = true) (bE4 : PySem.W.subIn K (.ref E4) (.type "BaseException") = some true) (tE4 : PySem.W.typeIn K (.ref E4) = some (.type "type")) (iE4 : PySem.W.isClsIn K E4 = true)
    {E5 : Addr} (aE5 : PySem.W.nsIn K mainGlobals "NoHand" = some (some (.ref E5))) (xE5 : PySem.W.excIn K E5 [.type "ValueError", .type "Exception", .type "BaseException", .type "object"] "ValueError.__new__" = true) (kE5 : PySem.W.keepIn K (.ref E5) = true) (bE5 : PySem.W.subIn K (.ref E5) (.type "BaseException") = some true) (tE5 : PySem.W.typeIn K (.ref E5) = some (.type "type")) (iE5 : PySem.W.isClsIn K E5 = true)
    {E6 : Addr} (aE6 : PySem.W.nsIn K mainGlobals "NoNet" = some (some (.ref E6))) (xE6 : PySem.W.excIn K E6 [.type "ValueError", .type "Exception", .type "BaseException", .type "object"] "ValueError.__new__" = true) (kE6 : PySem.W.keepIn K (.ref E6) = true) (bE6 : PySem.W.subIn K (.ref E6) (.type "BaseException") = some true) (tE6 : PySem.W.typeIn K (.ref E6) = some (.type "type")) (iE6 : PySem.W.isClsIn K E6 = true)
    {E7 : Addr} (aE7 : PySem.W.nsIn K mainGlobals "NoNumber" = some (some (.ref E7))) (xE7 : PySem.W.excIn K E7 [.type "ValueError", .type "Exception", .type "BaseException", .type "object"] "ValueError.__new__" = true) (kE7 : PySem.W.keepIn K (.ref E7) = true) (bE7 : PySem.W.subIn K (.ref E7) (.type "BaseException") = some true) (tE7 : PySem.W.typeIn K (.ref E7) = some (.type "type")) (iE7 : PySem.W.isClsIn K E7 = true)
    {E8 : Addr} (aE8 : PySem.W.nsIn K mainGlobals "NoOrder" = some (some (.ref E8))) (xE8 : PySem.W.excIn K E8 [.type "ValueError", .type "Exception", .type "BaseException", .type "object"] "ValueError.__new__" = true) (kE8 : PySem.W.keepIn K (.ref E8) = true) (bE8 : PySem.W.subIn K (.ref E8) (.type "BaseException") = some true) (tE8 : PySem.W.typeIn K (.ref E8) = some (.type "type")) (iE8 : PySem.W.isClsIn K E8 = true)
    {E9 : Addr} (aE9 : PySem.W.nsIn K mainGlobals "NoRow" = some (some (.ref E9))) (xE9 : PySem.W.excIn K E9 [.type "ValueError", .type "Exception", .type "BaseException", .type "object"] "ValueError.__new__" = true) (kE9 : PySem.W.keepIn K (.ref E9) = true) (bE9 : PySem.W.subIn K (.ref E9) (.type "BaseException") = some true) (tE9 : PySem.W.typeIn K (.ref E9) = some (.type "type")) (iE9 : PySem.W.isClsIn K E9 = true)
    {E10 : Addr} (aE10 : PySem.W.nsIn K mainGlobals "NoSettings" = some (some (.ref E10))) (xE10 : PySem.W.excIn K E10 [.type "ValueError", .type "Exception", .type "BaseException", .type "object"] "ValueError.__new__" = true) (kE10 : PySem.W.keepIn K (.ref E10) = true) (bE10 : PySem.W.subIn K (.ref E10) (.type "BaseException") = some true) (tE10 : PySem.W.typeIn K (.ref E10) = some (.type "type")) (iE10 : PySem.W.isClsIn K E10 = true)
    {E11 : Addr} (aE11 : PySem.W.nsIn K mainGlobals "NoSide" = some (some (.ref E11))) (xE11 : PySem.W.excIn K E11 [.type "ValueError", .type "Exception", .type "BaseException", .type "object"] "ValueError.__new__" = true) (kE11 : PySem.W.keepIn K (.ref E11) = true) (bE11 : PySem.W.subIn K (.ref E11) (.type "BaseException") = some true) (tE11 : PySem.W.typeIn K (.ref E11) = some (.type "type")) (iE11 : PySem.W.isClsIn K E11 = true)
    {E12 : Addr} (aE12 : PySem.W.nsIn K mainGlobals "NoTable" = some (some (.ref E12))) (xE12 : PySem.W.excIn K E12 [.type "ValueError", .type "Exception", .type "BaseException", .type "object"] "ValueError.__new__" = true) (kE12 : PySem.W.keepIn K (.ref E12) = true) (bE12 : PySem.W.subIn K (.ref E12) (.type "BaseException") = some true) (tE12 : PySem.W.typeIn K (.ref E12) = some (.type "type")) (iE12 : PySem.W.isClsIn K E12 = true)
    {E13 : Addr} (aE13 : PySem.W.nsIn K mainGlobals "NoText" = some (some (.ref E13))) (xE13 : PySem.W.excIn K E13 [.type "ValueError", .type "Exception", .type "BaseException", .type "object"] "ValueError.__new__" = true) (kE13 : PySem.W.keepIn K (.ref E13) = true) (bE13 : PySem.W.subIn K (.ref E13) (.type "BaseException") = some true) (tE13 : PySem.W.typeIn K (.ref E13) = some (.type "type")) (iE13 : PySem.W.isClsIn K E13 = true)
    {E14 : Addr} (aE14 : PySem.W.nsIn K mainGlobals "NoToken" = some (some (.ref E14))) (xE14 : PySem.W.excIn K E14 [.type "ValueError", .type "Exception", .type "BaseException", .type "object"] "ValueError.__new__" = true) (kE14 : PySem.W.keepIn K (.ref E14) = true) (bE14 : PySem.W.subIn K (.ref E14) (.type "BaseException") = some true) (tE14 : PySem.W.typeIn K (.ref E14) = some (.type "type")) (iE14 : PySem.W.isClsIn K E14 = true)
    {E15 : Addr} (aE15 : PySem.W.nsIn K mainGlobals "NoTree" = some (some (.ref E15))) (xE15 : PySem.W.excIn K E15 [.type "ValueError", .type "Exception", .type "BaseException", .type "object"] "ValueError.__new__" = true) (kE15 : PySem.W.keepIn K (.ref E15) = true) (bE15 : PySem.W.subIn K (.ref E15) (.type "BaseException") = some true) (tE15 : PySem.W.typeIn K (.ref E15) = some (.type "type")) (iE15 : PySem.W.isClsIn K E15 = true)
    {E16 : Addr} (aE16 : PySem.W.nsIn K mainGlobals "TooMany" = some (some (.ref E16))) (xE16 : PySem.W.excIn K E16 [.type "ValueError", .type "Exception", .type "BaseException", .type "object"] "ValueError.__new__" = true) (kE16 : PySem.W.keepIn K (.ref E16) = true) (bE16 : PySem.W.subIn K (.ref E16) (.type "BaseException") = some true) (tE16 : PySem.W.typeIn K (.ref E16) = some (.type "type")) (iE16 : PySem.W.isClsIn K E16 = true)
    (sE2_0 : PySem.W.subIn K (.ref E2) (.ref E0) = some true)
    (sE2_1 : PySem.W.subIn K (.ref E2) (.ref E1) = some false)
    (sE2_2 : PySem.W.subIn K (.ref E2) (.ref E2) = some true)
    (sE2_3 : PySem.W.subIn K (.ref E2) (.ref E3) = some false)
    (sE2_4 : PySem.W.subIn K (.ref E2) (.ref E4) = some false)
    (sE2_5 : PySem.W.subIn K (.ref E2) (.ref E5) = some false)
    (sE2_6 : PySem.W.subIn K (.ref E2) (.ref E6) = some false)
    (sE2_7 : PySem.W.subIn K (.ref E2) (.ref E7) = some false)
    (sE2_8 : PySem.W.subIn K (.ref E2) (.ref E8) = some false)
    (sE2_9 : PySem.W.subIn K (.ref E2) (.ref E9) = some false)
    (sE2_10 : PySem.W.subIn K (.ref E2) (.ref E10) = some false)
    (sE2_11 : PySem.W.subIn K (.ref E2) (.ref E11) = some false)
    (sE2_12 : PySem.W.subIn K (.ref E2) (.ref E12) = some false)
    (sE2_13 : PySem.W.subIn K (.ref E2) (.ref E13) = some false)
    (sE2_14 : PySem.W.subIn K (.ref E2) (.ref E14) = some false)
    (sE2_15 : PySem.W.subIn K (.ref E2) (.ref E15) = some false)
    (sE2_16 : PySem.W.subIn K (.ref E2) (.ref E16) = some false)
    (spG : PySem.W.specialIn K (.builtin "object.__class__") "__get__" = some (some (.builtin "getset_descriptor.__get__"))) (tkG : PySem.W.takesIn K (.builtin "object.__class__") = some true)
    (ga2 : PySem.W.findIn K (.ref E2) "__getattribute__" = some (some (.builtin "BaseException.__getattribute__"))) (gt2 : PySem.W.findIn K (.ref E2) "__getattr__" = some none) (hi2 : PySem.W.hasDictIn K E2 = true) (fc2 : PySem.W.findIn K (.ref E2) "__class__" = some (some (.builtin "object.__class__"))) (mo2 : PySem.W.mroIn K E2 (.type "object") = some true) (vE2 : PySem.W.subIn K (.ref E2) (.type "ValueError") = some true)
    (a1 : PySem.W.nsIn K mainGlobals "is_whole" = some (some (.ref f1))) (l1 : K.lookup f1 = some ⟨oc1, od1, .func (PySem.W.fnOf "is_whole" "is_whole" (defArgs s_is_whole) (defBody s_is_whole) (defScope s_is_whole) .none kV1 dc1 pm1 an1 cd1 ct1), sl1⟩) (c1 : PySem.W.codeIn K cd1 "is_whole" = true) (k1 : PySem.W.keepIn K (.ref f1) = true)
    (a2 : PySem.W.nsIn K mainGlobals "is_row_of" = some (some (.ref f2))) (l2 : K.lookup f2 = some ⟨oc2, od2, .func (PySem.W.fnOf "is_row_of" "is_row_of" (defArgs s_is_row_of) (defBody s_is_row_of) (defScope s_is_row_of) .none kV2 dc2 pm2 an2 cd2 ct2), sl2⟩) (c2 : PySem.W.codeIn K cd2 "is_row_of" = true) (k2 : PySem.W.keepIn K (.ref f2) = true)
    (a3 : PySem.W.nsIn K mainGlobals "is_end" = some (some (.ref f3))) (l3 : K.lookup f3 = some ⟨oc3, od3, .func (PySem.W.fnOf "is_end" "is_end" (defArgs s_is_end) (defBody s_is_end) (defScope s_is_end) .none kV3 dc3 pm3 an3 cd3 ct3), sl3⟩) (c3 : PySem.W.codeIn K cd3 "is_end" = true) (k3 : PySem.W.keepIn K (.ref f3) = true)
    (a4 : PySem.W.nsIn K mainGlobals "is_deed" = some (some (.ref f4))) (l4 : K.lookup f4 = some ⟨oc4, od4, .func (PySem.W.fnOf "is_deed" "is_deed" (defArgs s_is_deed) (defBody s_is_deed) (defScope s_is_deed) .none kV4 dc4 pm4 an4 cd4 ct4), sl4⟩) (c4 : PySem.W.codeIn K cd4 "is_deed" = true) (k4 : PySem.W.keepIn K (.ref f4) = true)
    (a5 : PySem.W.nsIn K mainGlobals "is_board" = some (some (.ref f5))) (l5 : K.lookup f5 = some ⟨oc5, od5, .func (PySem.W.fnOf "is_board" "is_board" (defArgs s_is_board) (defBody s_is_board) (defScope s_is_board) .none kV5 dc5 pm5 an5 cd5 ct5), sl5⟩) (c5 : PySem.W.codeIn K cd5 "is_board" = true) (k5 : PySem.W.keepIn K (.ref f5) = true)
    (a6 : PySem.W.nsIn K mainGlobals "want_board" = some (some (.ref f6))) (l6 : K.lookup f6 = some ⟨oc6, od6, .func (PySem.W.fnOf "want_board" "want_board" (defArgs s_want_board) (defBody s_want_board) (defScope s_want_board) .none kV6 dc6 pm6 an6 cd6 ct6), sl6⟩) (c6 : PySem.W.codeIn K cd6 "want_board" = true) (k6 : PySem.W.keepIn K (.ref f6) = true)
    (a7 : PySem.W.nsIn K mainGlobals "is_ask" = some (some (.ref f7))) (l7 : K.lookup f7 = some ⟨oc7, od7, .func (PySem.W.fnOf "is_ask" "is_ask" (defArgs s_is_ask) (defBody s_is_ask) (defScope s_is_ask) .none kV7 dc7 pm7 an7 cd7 ct7), sl7⟩) (c7 : PySem.W.codeIn K cd7 "is_ask" = true) (k7 : PySem.W.keepIn K (.ref f7) = true)
    (a8 : PySem.W.nsIn K mainGlobals "are_asks" = some (some (.ref f8))) (l8 : K.lookup f8 = some ⟨oc8, od8, .func (PySem.W.fnOf "are_asks" "are_asks" (defArgs s_are_asks) (defBody s_are_asks) (defScope s_are_asks) .none kV8 dc8 pm8 an8 cd8 ct8), sl8⟩) (c8 : PySem.W.codeIn K cd8 "are_asks" = true) (k8 : PySem.W.keepIn K (.ref f8) = true)
    (a9 : PySem.W.nsIn K mainGlobals "_law_pot" = some (some (.ref f9))) (l9 : K.lookup f9 = some ⟨oc9, od9, .func (PySem.W.fnOf "_law_pot" "_law_pot" (defArgs s__law_pot) (defBody s__law_pot) (defScope s__law_pot) .none kV9 dc9 pm9 an9 cd9 ct9), sl9⟩) (c9 : PySem.W.codeIn K cd9 "_law_pot" = true) (k9 : PySem.W.keepIn K (.ref f9) = true)
    (a10 : PySem.W.nsIn K mainGlobals "_law_draw" = some (some (.ref f10))) (l10 : K.lookup f10 = some ⟨oc10, od10, .func (PySem.W.fnOf "_law_draw" "_law_draw" (defArgs s__law_draw) (defBody s__law_draw) (defScope s__law_draw) .none kV10 dc10 pm10 an10 cd10 ct10), sl10⟩) (c10 : PySem.W.codeIn K cd10 "_law_draw" = true) (k10 : PySem.W.keepIn K (.ref f10) = true)
    (a11 : PySem.W.nsIn K mainGlobals "_law_number" = some (some (.ref f11))) (l11 : K.lookup f11 = some ⟨oc11, od11, .func (PySem.W.fnOf "_law_number" "_law_number" (defArgs s__law_number) (defBody s__law_number) (defScope s__law_number) .none kV11 dc11 pm11 an11 cd11 ct11), sl11⟩) (c11 : PySem.W.codeIn K cd11 "_law_number" = true) (k11 : PySem.W.keepIn K (.ref f11) = true)
    (a12 : PySem.W.nsIn K mainGlobals "_law_deed" = some (some (.ref f12))) (l12 : K.lookup f12 = some ⟨oc12, od12, .func (PySem.W.fnOf "_law_deed" "_law_deed" (defArgs s__law_deed) (defBody s__law_deed) (defScope s__law_deed) .none kV12 dc12 pm12 an12 cd12 ct12), sl12⟩) (c12 : PySem.W.codeIn K cd12 "_law_deed" = true) (k12 : PySem.W.keepIn K (.ref f12) = true)
    (a13 : PySem.W.nsIn K mainGlobals "_law_board" = some (some (.ref f13))) (l13 : K.lookup f13 = some ⟨oc13, od13, .func (PySem.W.fnOf "_law_board" "_law_board" (defArgs s__law_board) (defBody s__law_board) (defScope s__law_board) .none kV13 dc13 pm13 an13 cd13 ct13), sl13⟩) (c13 : PySem.W.codeIn K cd13 "_law_board" = true) (k13 : PySem.W.keepIn K (.ref f13) = true)
    (a14 : PySem.W.nsIn K mainGlobals "_law_asks" = some (some (.ref f14))) (l14 : K.lookup f14 = some ⟨oc14, od14, .func (PySem.W.fnOf "_law_asks" "_law_asks" (defArgs s__law_asks) (defBody s__law_asks) (defScope s__law_asks) .none kV14 dc14 pm14 an14 cd14 ct14), sl14⟩) (c14 : PySem.W.codeIn K cd14 "_law_asks" = true) (k14 : PySem.W.keepIn K (.ref f14) = true)
    (a15 : PySem.W.nsIn K mainGlobals "_law_is_whole" = some (some (.ref f15))) (l15 : K.lookup f15 = some ⟨oc15, od15, .func (PySem.W.fnOf "_law_is_whole" "_law_is_whole" (defArgs s__law_is_whole) (defBody s__law_is_whole) (defScope s__law_is_whole) .none kV15 dc15 pm15 an15 cd15 ct15), sl15⟩) (c15 : PySem.W.codeIn K cd15 "_law_is_whole" = true) (k15 : PySem.W.keepIn K (.ref f15) = true)
    (a16 : PySem.W.nsIn K mainGlobals "_law_is_deed" = some (some (.ref f16))) (l16 : K.lookup f16 = some ⟨oc16, od16, .func (PySem.W.fnOf "_law_is_deed" "_law_is_deed" (defArgs s__law_is_deed) (defBody s__law_is_deed) (defScope s__law_is_deed) .none kV16 dc16 pm16 an16 cd16 ct16), sl16⟩) (c16 : PySem.W.codeIn K cd16 "_law_is_deed" = true) (k16 : PySem.W.keepIn K (.ref f16) = true)
    (a17 : PySem.W.nsIn K mainGlobals "_law_is_board" = some (some (.ref f17))) (l17 : K.lookup f17 = some ⟨oc17, od17, .func (PySem.W.fnOf "_law_is_board" "_law_is_board" (defArgs s__law_is_board) (defBody s__law_is_board) (defScope s__law_is_board) .none kV17 dc17 pm17 an17 cd17 ct17), sl17⟩) (c17 : PySem.W.codeIn K cd17 "_law_is_board" = true) (k17 : PySem.W.keepIn K (.ref f17) = true)
    (a18 : PySem.W.nsIn K mainGlobals "_law_is_ask" = some (some (.ref f18))) (l18 : K.lookup f18 = some ⟨oc18, od18, .func (PySem.W.fnOf "_law_is_ask" "_law_is_ask" (defArgs s__law_is_ask) (defBody s__law_is_ask) (defScope s__law_is_ask) .none kV18 dc18 pm18 an18 cd18 ct18), sl18⟩) (c18 : PySem.W.codeIn K cd18 "_law_is_ask" = true) (k18 : PySem.W.keepIn K (.ref f18) = true)
    (a19 : PySem.W.nsIn K mainGlobals "_law_are_asks" = some (some (.ref f19))) (l19 : K.lookup f19 = some ⟨oc19, od19, .func (PySem.W.fnOf "_law_are_asks" "_law_are_asks" (defArgs s__law_are_asks) (defBody s__law_are_asks) (defScope s__law_are_asks) .none kV19 dc19 pm19 an19 cd19 ct19), sl19⟩) (c19 : PySem.W.codeIn K cd19 "_law_are_asks" = true) (k19 : PySem.W.keepIn K (.ref f19) = true)
    (a20 : PySem.W.nsIn K mainGlobals "_law_other" = some (some (.ref f20))) (l20 : K.lookup f20 = some ⟨oc20, od20, .func (PySem.W.fnOf "_law_other" "_law_other" (defArgs s__law_other) (defBody s__law_other) (defScope s__law_other) .none kV20 dc20 pm20 an20 cd20 ct20), sl20⟩) (c20 : PySem.W.codeIn K cd20 "_law_other" = true) (k20 : PySem.W.keepIn K (.ref f20) = true)
    (a21 : PySem.W.nsIn K mainGlobals "_law_bent" = some (some (.ref f21))) (l21 : K.lookup f21 = some ⟨oc21, od21, .func (PySem.W.fnOf "_law_bent" "_law_bent" (defArgs s__law_bent) (defBody s__law_bent) (defScope s__law_bent) .none kV21 dc21 pm21 an21 cd21 ct21), sl21⟩) (c21 : PySem.W.codeIn K cd21 "_law_bent" = true) (k21 : PySem.W.keepIn K (.ref f21) = true)
    (a22 : PySem.W.nsIn K mainGlobals "_law_spoilt" = some (some (.ref f22))) (l22 : K.lookup f22 = some ⟨oc22, od22, .func (PySem.W.fnOf "_law_spoilt" "_law_spoilt" (defArgs s__law_spoilt) (defBody s__law_spoilt) (defScope s__law_spoilt) .none kV22 dc22 pm22 an22 cd22 ct22), sl22⟩) (c22 : PySem.W.codeIn K cd22 "_law_spoilt" = true) (k22 : PySem.W.keepIn K (.ref f22) = true)
    (a23 : PySem.W.nsIn K mainGlobals "_law_word" = some (some (.ref f23))) (l23 : K.lookup f23 = some ⟨oc23, od23, .func (PySem.W.fnOf "_law_word" "_law_word" (defArgs s__law_word) (defBody s__law_word) (defScope s__law_word) .none kV23 dc23 pm23 an23 cd23 ct23), sl23⟩) (c23 : PySem.W.codeIn K cd23 "_law_word" = true) (k23 : PySem.W.keepIn K (.ref f23) = true)
    (a24 : PySem.W.nsIn K mainGlobals "_law_by_truths" = some (some (.ref f24))) (l24 : K.lookup f24 = some ⟨oc24, od24, .func (PySem.W.fnOf "_law_by_truths" "_law_by_truths" (defArgs s__law_by_truths) (defBody s__law_by_truths) (defScope s__law_by_truths) .none kV24 dc24 pm24 an24 cd24 ct24), sl24⟩) (c24 : PySem.W.codeIn K cd24 "_law_by_truths" = true) (k24 : PySem.W.keepIn K (.ref f24) = true)
    (a25 : PySem.W.nsIn K mainGlobals "_law_truths_told" = some (some (.ref f25))) (l25 : K.lookup f25 = some ⟨oc25, od25, .func (PySem.W.fnOf "_law_truths_told" "_law_truths_told" (defArgs s__law_truths_told) (defBody s__law_truths_told) (defScope s__law_truths_told) .none kV25 dc25 pm25 an25 cd25 ct25), sl25⟩) (c25 : PySem.W.codeIn K cd25 "_law_truths_told" = true) (k25 : PySem.W.keepIn K (.ref f25) = true)
    (a26 : PySem.W.nsIn K mainGlobals "_law_right" = some (some (.ref f26))) (l26 : K.lookup f26 = some ⟨oc26, od26, .func (PySem.W.fnOf "_law_right" "_law_right" (defArgs s__law_right) (defBody s__law_right) (defScope s__law_right) .none kV26 dc26 pm26 an26 cd26 ct26), sl26⟩) (c26 : PySem.W.codeIn K cd26 "_law_right" = true) (k26 : PySem.W.keepIn K (.ref f26) = true)
    (a27 : PySem.W.nsIn K mainGlobals "law" = some (some (.ref f27))) (l27 : K.lookup f27 = some ⟨oc27, od27, .func (PySem.W.fnOf "law" "law" (defArgs s_law) (defBody s_law) (defScope s_law) .none kV27 dc27 pm27 an27 cd27 ct27), sl27⟩) (c27 : PySem.W.codeIn K cd27 "law" = true) (k27 : PySem.W.keepIn K (.ref f27) = true)
    (z0 : PySem.W.nsIn K mainGlobals "ValueError" = some none)
    (z1 : PySem.W.nsIn K mainGlobals "all" = some none)
    (z2 : PySem.W.nsIn K mainGlobals "bool" = some none)
    (z3 : PySem.W.nsIn K mainGlobals "e" = some none)
    (z4 : PySem.W.nsIn K mainGlobals "int" = some none)
    (z5 : PySem.W.nsIn K mainGlobals "isinstance" = some none)
    (z6 : PySem.W.nsIn K mainGlobals "len" = some none)
    (z7 : PySem.W.nsIn K mainGlobals "list" = some none)
    (z8 : PySem.W.nsIn K mainGlobals "max" = some none)
    (z9 : PySem.W.nsIn K mainGlobals "min" = some none)
    (z10 : PySem.W.nsIn K mainGlobals "range" = some none)
    (z11 : PySem.W.nsIn K mainGlobals "repr" = some none)
    (z12 : PySem.W.nsIn K mainGlobals "str" = some none)
    (z13 : PySem.W.nsIn K mainGlobals "tuple" = some none)
    {tc0 : Tok} (cst0 : PySem.W.nsIn K mainGlobals "MOST_BOXES" = some (some (.int (16) tc0)))
    {tc1 : Tok} (cst1 : PySem.W.nsIn K mainGlobals "HANDS" = some (some (.int (16) tc1)))
    : AllD K mg := by
  exact ⟨Df.of l1 c1 k1 (PySem.W.mg_of X G a1) (fun _ _ _ _ _ _ us hl => match us, hl with | [_], _ => rfl), Df.of l2 c2 k2 (PySem.W.mg_of X G a2) (fun _ _ _ _ _ _ us hl => match us, hl with | [_, _], _ => rfl), Df.of l3 c3 k3 (PySem.W.mg_of X G a3) (fun _ _ _ _ _ _ us hl => match us, hl with | [_], _ => rfl), Df.of l4 c4 k4 (PySem.W.mg_of X G a4) (fun _ _ _ _ _ _ us hl => match us, hl with | [_], _ => rfl), Df.of l5 c5 k5 (PySem.W.mg_of X G a5) (fun _ _ _ _ _ _ us hl => match us, hl with | [_], _ => rfl), Df.of l6 c6 k6 (PySem.W.mg_of X G a6) (fun _ _ _ _ _ _ us hl => match us, hl with | [_], _ => rfl), Df.of l7 c7 k7 (PySem.W.mg_of X G a7) (fun _ _ _ _ _ _ us hl => match us, hl with | [_, _], _ => rfl), Df.of l8 c8 k8 (PySem.W.mg_of X G a8) (fun _ _ _ _ _ _ us hl => match us, hl with | [_, _], _ => rfl), Df.of l9 c9 k9 (PySem.W.mg_of X G a9) (fun _ _ _ _ _ _ us hl => match us, hl with | [_, _], _ => rfl), Df.of l10 c10 k10 (PySem.W.mg_of X G a10) (fun _ _ _ _ _ _ us hl => match us, hl with | [_, _], _ => rfl), Df.of l11 c11 k11 (PySem.W.mg_of X G a11) (fun _ _ _ _ _ _ us hl => match us, hl with | [_], _ => rfl), Df.of l12 c12 k12 (PySem.W.mg_of X G a12) (fun _ _ _ _ _ _ us hl => match us, hl with | [_], _ => rfl), Df.of l13 c13 k13 (PySem.W.mg_of X G a13) (fun _ _ _ _ _ _ us hl => match us, hl with | [_], _ => rfl), Df.of l14 c14 k14 (PySem.W.mg_of X G a14) (fun _ _ _ _ _ _ us hl => match us, hl with | [_, _, _], _ => rfl), Df.of l15 c15 k15 (PySem.W.mg_of X G a15) (fun _ _ _ _ _ _ us hl => match us, hl with | [_], _ => rfl), Df.of l16 c16 k16 (PySem.W.mg_of X G a16) (fun _ _ _ _ _ _ us hl => match us, hl with | [_], _ => rfl), Df.of l17 c17 k17 (PySem.W.mg_of X G a17) (fun _ _ _ _ _ _ us hl => match us, hl with | [_], _ => rfl), Df.of l18 c18 k18 (PySem.W.mg_of X G a18) (fun _ _ _ _ _ _ us hl => match us, hl with | [_, _], _ => rfl), Df.of l19 c19 k19 (PySem.W.mg_of X G a19) (fun _ _ _ _ _ _ us hl => match us, hl with | [_, _], _ => rfl), Df.of l20 c20 k20 (PySem.W.mg_of X G a20) (fun _ _ _ _ _ _ us hl => match us, hl with | [_, _], _ => rfl), Df.of l21 c21 k21 (PySem.W.mg_of X G a21) (fun _ _ _ _ _ _ us hl => match us, hl with | [_, _, _], _ => rfl), Df.of l22 c22 k22 (PySem.W.mg_of X G a22) (fun _ _ _ _ _ _ us hl => match us, hl with | [_, _, _], _ => rfl), Df.of l23 c23 k23 (PySem.W.mg_of X G a23) (fun _ _ _ _ _ _ us hl => match us, hl with | [_, _], _ => rfl), Df.of l24 c24 k24 (PySem.W.mg_of X G a24) (fun _ _ _ _ _ _ us hl => match us, hl with | [_], _ => rfl), Df.of l25 c25 k25 (PySem.W.mg_of X G a25) (fun _ _ _ _ _ _ us hl => match us, hl with | [_], _ => rfl), Df.of l26 c26 k26 (PySem.W.mg_of X G a26) (fun _ _ _ _ _ _ us hl => match us, hl with | [_], _ => rfl), Df.of l27 c27 k27 (PySem.W.mg_of X G a27) (fun _ _ _ _ _ _ us hl => match us, hl with | [_], _ => rfl), ⟨PySem.W.mg_none_of X G z0, PySem.W.mg_none_of X G z1, PySem.W.mg_none_of X G z2, PySem.W.mg_none_of X G z3, PySem.W.mg_none_of X G z4, PySem.W.mg_none_of X G z5, PySem.W.mg_none_of X G z6, PySem.W.mg_none_of X G z7, PySem.W.mg_none_of X G z8, PySem.W.mg_none_of X G z9, PySem.W.mg_none_of X G z10, PySem.W.mg_none_of X G z11, PySem.W.mg_none_of X G z12, PySem.W.mg_none_of X G z13, ⟨_, PySem.W.mg_of X G cst0⟩, ⟨_, PySem.W.mg_of X G cst1⟩, ExcF.of (PySem.W.mg_of X G aE0) xE0 kE0 bE0 tE0 iE0, ExcF.of (PySem.W.mg_of X G aE1) xE1 kE1 bE1 tE1 iE1, ExcF.of (PySem.W.mg_of X G aE2) xE2 kE2 bE2 tE2 iE2, ExcF.of (PySem.W.mg_of X G aE3) xE3 kE3 bE3 tE3 iE3, ExcF.of (PySem.W.mg_of X G aE4) xE4 kE4 bE4 tE4 iE4, ExcF.of (PySem.W.mg_of X G aE5) xE5 kE5 bE5 tE5 iE5, ExcF.of (PySem.W.mg_of X G aE6) xE6 kE6 bE6 tE6 iE6, ExcF.of (PySem.W.mg_of X G aE7) xE7 kE7 bE7 tE7 iE7, ExcF.of (PySem.W.mg_of X G aE8) xE8 kE8 bE8 tE8 iE8, ExcF.of (PySem.W.mg_of X G aE9) xE9 kE9 bE9 tE9 iE9, ExcF.of (PySem.W.mg_of X G aE10) xE10 kE10 bE10 tE10 iE10, ExcF.of (PySem.W.mg_of X G aE11) xE11 kE11 bE11 tE11 iE11, ExcF.of (PySem.W.mg_of X G aE12) xE12 kE12 bE12 tE12 iE12, ExcF.of (PySem.W.mg_of X G aE13) xE13 kE13 bE13 tE13 iE13, ExcF.of (PySem.W.mg_of X G aE14) xE14 kE14 bE14 tE14 iE14, ExcF.of (PySem.W.mg_of X G aE15) xE15 kE15 bE15 tE15 iE15, ExcF.of (PySem.W.mg_of X G aE16) xE16 kE16 bE16 tE16 iE16, SubF.of (PySem.W.mg_of X G aE2) (PySem.W.mg_of X G aE0) sE2_0, SubF.of (PySem.W.mg_of X G aE2) (PySem.W.mg_of X G aE1) sE2_1, SubF.of (PySem.W.mg_of X G aE2) (PySem.W.mg_of X G aE2) sE2_2, SubF.of (PySem.W.mg_of X G aE2) (PySem.W.mg_of X G aE3) sE2_3, SubF.of (PySem.W.mg_of X G aE2) (PySem.W.mg_of X G aE4) sE2_4, SubF.of (PySem.W.mg_of X G aE2) (PySem.W.mg_of X G aE5) sE2_5, SubF.of (PySem.W.mg_of X G aE2) (PySem.W.mg_of X G aE6) sE2_6, SubF.of (PySem.W.mg_of X G aE2) (PySem.W.mg_of X G aE7) sE2_7, SubF.of (PySem.W.mg_of X G aE2) (PySem.W.mg_of X G aE8) sE2_8, SubF.of (PySem.W.mg_of X G aE2) (PySem.W.mg_of X G aE9) sE2_9, SubF.of (PySem.W.mg_of X G aE2) (PySem.W.mg_of X G aE10) sE2_10, SubF.of (PySem.W.mg_of X G aE2) (PySem.W.mg_of X G aE11) sE2_11, SubF.of (PySem.W.mg_of X G aE2) (PySem.W.mg_of X G aE12) sE2_12, SubF.of (PySem.W.mg_of X G aE2) (PySem.W.mg_of X G aE13) sE2_13, SubF.of (PySem.W.mg_of X G aE2) (PySem.W.mg_of X G aE14) sE2_14, SubF.of (PySem.W.mg_of X G aE2) (PySem.W.mg_of X G aE15) sE2_15, SubF.of (PySem.W.mg_of X G aE2) (PySem.W.mg_of X G aE16) sE2_16, ExcI.of (PySem.W.mg_of X G aE2) ⟨ga2, gt2, bE2, hi2, fc2, spG, tkG, mo2⟩ vE2⟩⟩

theorem law_fd {P : Program} {w : World} {K : PySem.W.Frag} {mg : Str → Option Value} {fa : Addr} (A : AllD K mg) (hfa : mg "law" = some (.ref fa)) :
    ∃ fd : FuncData, (∀ (s : Shared) (v : Value), BindsTo s fd ⟨[v], []⟩ [("_law_script", v)]) ∧ ∀ base : Heap, K.In base → base.Ns mainGlobals mg → FnG P w K mg base CX0 56 fa fd ["_law_script"] (spLaw K) := by
  obtain ⟨f, fd, F, m, b⟩ := A.d_law.ex
  have e := hfa.symm.trans m
  cases e
  refine ⟨fd, fun s v => by obtain ⟨oc, od, kV, doc, pm, an, cdv, ct, osl, rfl, lk, hcd⟩ := F.ex; exact .of_eq rfl, fun base _ _ => ?_⟩
  have B := A.bl
  have D_is_whole : Dn P w K mg base 1 "is_whole" ["thing"] (spWhT K) := k_is_whole B A.d_is_whole 
  have D__law_is_whole : Dn P w K mg base 1 "_law_is_whole" ["_law_thing"] (spWhT2 K) := k__law_is_whole B A.d__law_is_whole 
  have D_is_row_of : Dn P w K mg base 1 "is_row_of" ["thing", "many"] (spRowT K) := k_is_row_of B A.d_is_row_of 
  have D_is_end : Dn P w K mg base 2 "is_end" ["thing"] (spEndT K) := k_is_end B A.d_is_end D_is_whole
  have D_is_deed : Dn P w K mg base 3 "is_deed" ["thing"] (spDeedT K) := k_is_deed B A.d_is_deed D_is_whole D_is_row_of D_is_end
  have D_is_board : Dn P w K mg base 2 "is_board" ["thing"] (spBdT K) := k_is_board B A.d_is_board D_is_whole
  have D_want_board : Dx P w K mg base 3 "want_board" ["board"] (spWBdT K (cAt mg "NoBoard")) := k_want_board B A.d_want_board D_is_board
  have D_is_ask : Dn P w K mg base 4 "is_ask" ["board", "thing"] (spAkT K) := k_is_ask B A.d_is_ask D_is_whole D_is_deed
  have D_are_asks : Dx P w K mg base 5 "are_asks" ["board", "thing"] (spAsT K (cAt mg "NoBoard")) := k_are_asks B A.d_are_asks D_want_board D_is_ask
  have D__law_pot : Dn P w K mg base 1 "_law_pot" ["_law_script", "_law_k"] (spPot2 K) := k__law_pot B A.d__law_pot 
  have D__law_draw : Dn P w K mg base 1 "_law_draw" ["_law_pot_here", "_law_many"] spTake := k__law_draw B A.d__law_draw 
  have D__law_number : Dn P w K mg base 2 "_law_number" ["_law_pot_here"] spNumber := k__law_number B A.d__law_number D__law_draw
  have D__law_deed : Dn P w K mg base 3 "_law_deed" ["_law_pot_here"] spDeed := k__law_deed B A.d__law_deed D__law_draw D__law_number
  have D__law_board : Dn P w K mg base 3 "_law_board" ["_law_pot_here"] spBoard := k__law_board B A.d__law_board D__law_draw D__law_number
  have D__law_asks : Dn P w K mg base 4 "_law_asks" ["_law_pot_here", "_law_board_here", "_law_most"] spAsks := k__law_asks B A.d__law_asks D__law_draw D__law_deed
  have D__law_other : Dn P w K mg base 3 "_law_other" ["_law_pot_here", "_law_thing"] (spOther K) := k__law_other B A.d__law_other D__law_draw D__law_is_whole
  have D__law_is_deed : Dn P w K mg base 3 "_law_is_deed" ["_law_thing"] (spLDeedT K) := k__law_is_deed B A.d__law_is_deed D__law_is_whole
  have D__law_is_board : Dn P w K mg base 2 "_law_is_board" ["_law_thing"] (spLBdT K) := k__law_is_board B A.d__law_is_board D__law_is_whole
  have D__law_is_ask : Dn P w K mg base 4 "_law_is_ask" ["_law_board_here", "_law_thing"] (spLAkT K) := k__law_is_ask B A.d__law_is_ask D__law_is_whole D__law_is_deed
  have D__law_are_asks : Dn P w K mg base 5 "_law_are_asks" ["_law_board_here", "_law_thing"] (spLAsT K) := k__law_are_asks B A.d__law_are_asks D__law_is_ask
  have D__law_by_truths : Dn P w K mg base 8 "_law_by_truths" ["_law_thing"] ((spByTT K) 6) := k__law_by_truths B A.d__law_by_truths D__law_is_whole
  have D__law_word : Dn P w K mg base 6 "_law_word" ["_law_board_here", "_law_thing"] (spWordT K) := k__law_word B A.d__law_word D_are_asks
  have D__law_bent : Dn P w K mg base 45 "_law_bent" ["_law_pot_here", "_law_thing", "_law_deep"] ((spBent K) 41) := k__law_bent B A.d__law_bent D__law_draw D__law_other
  have D__law_spoilt : Dn P w K mg base 46 "_law_spoilt" ["_law_pot_here", "_law_thing", "_law_deep"] (spSpoilt K) := k__law_spoilt B A.d__law_spoilt D__law_draw D__law_bent
  have D__law_truths_told : Dn P w K mg base 50 "_law_truths_told" ["_law_pot_here"] (spTold K) := k__law_truths_told B A.d__law_truths_told D__law_draw D__law_board D__law_asks D__law_by_truths D_is_board D_are_asks D__law_word
  have D__law_right : Dn P w K mg base 55 "_law_right" ["_law_pot_here"] (spRight K) := k__law_right B A.d__law_right D__law_board D__law_asks D__law_spoilt D_is_board D_are_asks D__law_is_board D__law_are_asks D__law_word D__law_truths_told
  exact k_law B F D__law_pot D__law_right

theorem walk {l : PySem.W.OpenLaw} {q : Program} {loose : List Str} {XP : (Str → Option Value) → Heap → Prop} {YP : World → Heap → Prop} {d : DefRec} {K : Params → PySem.W.Frag} (hn : l.most = some 63) (hdf : d.params.defaults = [])
    (hY : ∀ (w : World) (h : Heap), YP w h → (K w.params).In h) (hname : d.name = "law") (F : ∀ (w : World) (mg : Str → Option Value) (h : Heap), (K w.params).In h → h.Ns mainGlobals mg → AllD (K w.params) mg) :
    PySem.W.WalkO q loose XP YP l.row.toRowW d [] (fun f vs => PySem.call f vs) :=
  walk_G (n := 63) (k := 56) (x := "_law_script") (sp := spLaw) hn (by decide) hdf ⟨rfl, by decide, by decide⟩ hY
    (fun w mg fa h KX G hfa => law_fd (F w mg h KX G) (by rw [hname] at hfa; exact hfa)) fun _ _ a ns hl hS => ⟨a, ns, rfl, hS, hl, fun _ => rfl⟩
end Toy
open PySem PySem.W PyProof.Rows
set_option maxRecDepth 100000 in
set_option maxHeartbeats 0 in
theorem PySem.Challenge.cw_joinedasks_k21_boards_and_asks_known_holds : PySem.Challenge.rw_joinedasks_k21_boards_and_asks_known.Holds := by
  w_on; o_law; k_head; (case hw => w_witness2)
  k_fill
  refine Toy.walk (l := PySem.Challenge.rw_joinedasks_k21_boards_and_asks_known) rfl rfl (fun w h Y => PySem.W.kIn_of Y) rfl ?F
  case F =>
    intro w mg h KX G
    refine' Toy.all_mk (w := w) KX G ?aE0 ?xE0 ?kE0 ?bE0 ?tE0 ?iE0 ?aE1 ?xE1 ?kE1 ?bE1 ?tE1 ?iE1 ?aE2 ?xE2 ?kE2 ?bE2 ?tE2 ?iE2 ?aE3 ?xE3 ?kE3 ?bE3 ?tE3 ?iE3 ?aE4 ?xE4 ?kE4 ?bE4 ?tE4 ?iE4 ?aE5 ?xE5 ?kE5 ?bE5 ?tE5 ?iE5 ?aE6 ?xE6 ?kE6 ?bE6 ?tE6 ?iE6 ?aE7 ?xE7 ?kE7 ?bE7 ?tE7 ?iE7 ?aE8 ?xE8 ?kE8 ?bE8 ?tE8 ?iE8 ?aE9 ?xE9 ?kE9 ?bE9 ?tE9 ?iE9 ?aE10 ?xE10 ?kE10 ?bE10 ?tE10 ?iE10 ?aE11 ?xE11 ?kE11 ?bE11 ?tE11 ?iE11 ?aE12 ?xE12 ?kE12 ?bE12 ?tE12 ?iE12 ?aE13 ?xE13 ?kE13 ?bE13 ?tE13 ?iE13 ?aE14 ?xE14 ?kE14 ?bE14 ?tE14 ?iE14 ?aE15 ?xE15 ?kE15 ?bE15 ?tE15 ?iE15 ?aE16 ?xE16 ?kE16 ?bE16 ?tE16 ?iE16 ?sE2_0 ?sE2_1 ?sE2_2 ?sE2_3 ?sE2_4 ?sE2_5 ?sE2_6 ?sE2_7 ?sE2_8 ?sE2_9 ?sE2_10 ?sE2_11 ?sE2_12 ?sE2_13 ?sE2_14 ?sE2_15 ?sE2_16 ?spG ?tkG ?ga2 ?gt2 ?hi2 ?fc2 ?mo2 ?vE2 ?a1 ?l1 ?c1 ?k1 ?a2 ?l2 ?c2 ?k2 ?a3 ?l3 ?c3 ?k3 ?a4 ?l4 ?c4 ?k4 ?a5 ?l5 ?c5 ?k5 ?a6 ?l6 ?c6 ?k6 ?a7 ?l7 ?c7 ?k7 ?a8 ?l8 ?c8 ?k8 ?a9 ?l9 ?c9 ?k9 ?a10 ?l10 ?c10 ?k10 ?a11 ?l11 ?c11 ?k11 ?a12 ?l12 ?c12 ?k12 ?a13 ?l13 ?c13 ?k13 ?a14 ?l14 ?c14 ?k14 ?a15 ?l15 ?c15 ?k15 ?a16 ?l16 ?c16 ?k16 ?a17 ?l17 ?c17 ?k17 ?a18 ?l18 ?c18 ?k18 ?a19 ?l19 ?c19 ?k19 ?a20 ?l20 ?c20 ?k20 ?a21 ?l21 ?c21 ?k21 ?a22 ?l22 ?c22 ?k22 ?a23 ?l23 ?c23 ?k23 ?a24 ?l24 ?c24 ?k24 ?a25 ?l25 ?c25 ?k25 ?a26 ?l26 ?c26 ?k26 ?a27 ?l27 ?c27 ?k27 ?z0 ?z1 ?z2 ?z3 ?z4 ?z5 ?z6 ?z7 ?z8 ?z9 ?z10 ?z11 ?z12 ?z13 ?cst0 ?cst1
    (case aE0 => k_is)
    (case xE0 => k_exc)
    (case kE0 => k_is)
    (case bE0 => k_is)
    (case tE0 => k_is)
    (case iE0 => k_is)
    (case aE1 => k_is)
    (case xE1 => k_exc)
    (case kE1 => k_is)
    (case bE1 => k_is)
    (case tE1 => k_is)
    (case iE1 => k_is)
    (case aE2 => k_is)
    (case xE2 => k_exc)
    (case kE2 => k_is)
    (case bE2 => k_is)
    (case tE2 => k_is)
    (case iE2 => k_is)
    (case aE3 => k_is)
    (case xE3 => k_exc)
    (case kE3 => k_is)
    (case bE3 => k_is)
    (case tE3 => k_is)
    (case iE3 => k_is)
    (case aE4 => k_is)
    (case xE4 => k_exc)
    (case kE4 => k_is)
    (case bE4 => k_is)
    (case tE4 => k_is)
    (case iE4 => k_is)
    (case aE5 => k_is)
    (case xE5 => k_exc)
    (case kE5 => k_is)
    (case bE5 => k_is)
    (case tE5 => k_is)
    (case iE5 => k_is)
    (case aE6 => k_is)
    (case xE6 => k_exc)
    (case kE6 => k_is)
    (case bE6 => k_is)
    (case tE6 => k_is)
    (case iE6 => k_is)
    (case aE7 => k_is)
    (case xE7 => k_exc)
    (case kE7 => k_is)
    (case bE7 => k_is)
    (case tE7 => k_is)
    (case iE7 => k_is)
    (case aE8 => k_is)
    (case xE8 => k_exc)
    (case kE8 => k_is)
    (case bE8 => k_is)
    (case tE8 => k_is)
    (case iE8 => k_is)
    (case aE9 => k_is)
    (case xE9 => k_exc)
    (case kE9 => k_is)
    (case bE9 => k_is)
    (case tE9 => k_is)
    (case iE9 => k_is)
    (case aE10 => k_is)
    (case xE10 => k_exc)
    (case kE10 => k_is)
    (case bE10 => k_is)
    (case tE10 => k_is)
    (case iE10 => k_is)
    (case aE11 => k_is)
    (case xE11 => k_exc)
    (case kE11 => k_is)
    (case bE11 => k_is)
    (case tE11 => k_is)
    (case iE11 => k_is)
    (case aE12 => k_is)
    (case xE12 => k_exc)
    (case kE12 => k_is)
    (case bE12 => k_is)
    (case tE12 => k_is)
    (case iE12 => k_is)
    (case aE13 => k_is)
    (case xE13 => k_exc)
    (case kE13 => k_is)
    (case bE13 => k_is)
    (case tE13 => k_is)
    (case iE13 => k_is)
    (case aE14 => k_is)
    (case xE14 => k_exc)
    (case kE14 => k_is)
    (case bE14 => k_is)
    (case tE14 => k_is)
    (case iE14 => k_is)
    (case aE15 => k_is)
    (case xE15 => k_exc)
    (case kE15 => k_is)
    (case bE15 => k_is)
    (case tE15 => k_is)
    (case iE15 => k_is)
    (case aE16 => k_is)
    (case xE16 => k_exc)
    (case kE16 => k_is)
    (case bE16 => k_is)
    (case tE16 => k_is)
    (case iE16 => k_is)
    (case sE2_0 => first | rfl | k_is)
    (case sE2_1 => first | rfl | k_is)
    (case sE2_2 => first | rfl | k_is)
    (case sE2_3 => first | rfl | k_is)
    (case sE2_4 => first | rfl | k_is)
    (case sE2_5 => first | rfl | k_is)
    (case sE2_6 => first | rfl | k_is)
    (case sE2_7 => first | rfl | k_is)
    (case sE2_8 => first | rfl | k_is)
    (case sE2_9 => first | rfl | k_is)
    (case sE2_10 => first | rfl | k_is)
    (case sE2_11 => first | rfl | k_is)
    (case sE2_12 => first | rfl | k_is)
    (case sE2_13 => first | rfl | k_is)
    (case sE2_14 => first | rfl | k_is)
    (case sE2_15 => first | rfl | k_is)
    (case sE2_16 => first | rfl | k_is)
    (case spG => k_is)
    (case tkG => k_is)
    (case ga2 => k_is)
    (case gt2 => k_is)
    (case hi2 => k_is)
    (case fc2 => k_is)
    (case mo2 => k_is)
    (case vE2 => k_is)
    (case a1 => k_is)
    (case l1 => k_is)
    (case c1 => k_is)
    (case k1 => k_is)
    (case a2 => k_is)
    (case l2 => k_is)
    (case c2 => k_is)
    (case k2 => k_is)
    (case a3 => k_is)
    (case l3 => k_is)
    (case c3 => k_is)
    (case k3 => k_is)
    (case a4 => k_is)
    (case l4 => k_is)
    (case c4 => k_is)
    (case k4 => k_is)
    (case a5 => k_is)
    (case l5 => k_is)
    (case c5 => k_is)
    (case k5 => k_is)
    (case a6 => k_is)
    (case l6 => k_is)
    (case c6 => k_is)
    (case k6 => k_is)
    (case a7 => k_is)
    (case l7 => k_is)
    (case c7 => k_is)
    (case k7 => k_is)
    (case a8 => k_is)
    (case l8 => k_is)
    (case c8 => k_is)
    (case k8 => k_is)
    (case a9 => k_is)
    (case l9 => k_is)
    (case c9 => k_is)
    (case k9 => k_is)
    (case a10 => k_is)
    (case l10 => k_is)
    (case c10 => k_is)
    (case k10 => k_is)
    (case a11 => k_is)
    (case l11 => k_is)
    (case c11 => k_is)
    (case k11 => k_is)
    (case a12 => k_is)
    (case l12 => k_is)
    (case c12 => k_is)
    (case k12 => k_is)
    (case a13 => k_is)
    (case l13 => k_is)
    (case c13 => k_is)
    (case k13 => k_is)
    (case a14 => k_is)
    (case l14 => k_is)
    (case c14 => k_is)
    (case k14 => k_is)
    (case a15 => k_is)
    (case l15 => k_is)
    (case c15 => k_is)
    (case k15 => k_is)
    (case a16 => k_is)
    (case l16 => k_is)
    (case c16 => k_is)
    (case k16 => k_is)
    (case a17 => k_is)
    (case l17 => k_is)
    (case c17 => k_is)
    (case k17 => k_is)
    (case a18 => k_is)
    (case l18 => k_is)
    (case c18 => k_is)
    (case k18 => k_is)
    (case a19 => k_is)
    (case l19 => k_is)
    (case c19 => k_is)
    (case k19 => k_is)
    (case a20 => k_is)
    (case l20 => k_is)
    (case c20 => k_is)
    (case k20 => k_is)
    (case a21 => k_is)
    (case l21 => k_is)
    (case c21 => k_is)
    (case k21 => k_is)
    (case a22 => k_is)
    (case l22 => k_is)
    (case c22 => k_is)
    (case k22 => k_is)
    (case a23 => k_is)
    (case l23 => k_is)
    (case c23 => k_is)
    (case k23 => k_is)
    (case a24 => k_is)
    (case l24 => k_is)
    (case c24 => k_is)
    (case k24 => k_is)
    (case a25 => k_is)
    (case l25 => k_is)
    (case c25 => k_is)
    (case k25 => k_is)
    (case a26 => k_is)
    (case l26 => k_is)
    (case c26 => k_is)
    (case k26 => k_is)
    (case a27 => k_is)
    (case l27 => k_is)
    (case c27 => k_is)
    (case k27 => k_is)
    (case z0 => k_is)
    (case z1 => k_is)
    (case z2 => k_is)
    (case z3 => k_is)
    (case z4 => k_is)
    (case z5 => k_is)
    (case z6 => k_is)
    (case z7 => k_is)
    (case z8 => k_is)
    (case z9 => k_is)
    (case z10 => k_is)
    (case z11 => k_is)
    (case z12 => k_is)
    (case z13 => k_is)
    (case cst0 => k_is)
    (case cst1 => k_is)
#print axioms PySem.Challenge.cw_joinedasks_k21_boards_and_asks_known_holds

