import PyProof.Rows.All
import Wide.All
import OpenK.AllK
import Wide.FinOn
import HandS.ForMost
import HandS.Defaults
import HandS.WideBits
import HandS.Conv
import HandS.IsInst
import HandS.RaiseMore
import HandS.SortInts
import HandS.Style
import HandS.Codes
import HandS.ForExc
import HandS.TryMany
import HandS.Flow
import KE.KEqSeq
import PyProof.ReprRoads
import KE.GoesMore
import KE.KDictZip
import PyProof.ListNew
import HandS.Strs
import HandS.TupMul
import HandS.TryOnly
import PySem.Challenge.RW_joinedasks_k85_whole_tokens_in_a_row
set_option Elab.async false
set_option linter.all false
set_option maxRecDepth 100000
set_option maxHeartbeats 4000000
set_option exponentiation.threshold 100000
namespace Toy
open PySem PySem.Spec PyProof.Rows L2
/-- a def of the text stands behind its name -/
structure Df (K : PySem.W.Frag) (mg : Str → Option Value) (x : Str) (st : Stmt) (ps : List Str) : Prop where
  ex : ∃ f fd, Fun K x x st f fd ∧ mg x = some (.ref f) ∧ Binds K fd ps []
theorem Df.of {K : PySem.W.Frag} {mg : Str → Option Value} {x : Str} {st : Stmt} {ps : List Str} {f : Addr} {oc : Value} {od an : Option Addr} {osl : Array (Option Value)} {kV doc pm cdv ct : Value}
    (l : K.lookup f = some ⟨oc, od, .func (PySem.W.fnOf x x (defArgs st) (defBody st) (defScope st) .none kV doc pm an cdv ct), osl⟩) (c : PySem.W.codeIn K cdv x = true) (k : PySem.W.keepIn K (.ref f) = true) (m : mg x = some (.ref f))
    (h : ∀ (kV doc pm : Value) (an : Option Addr) (cdv ct : Value) (us : List Value), us.length = ps.length → bindArgs (PySem.W.fnOf x x (defArgs st) (defBody st) (defScope st) .none kV doc pm an cdv ct) ⟨us, []⟩ = pure (ps.zip us)) : Df K mg x st ps :=
  ⟨_, _, fun_mk l c k, m, (fun_mk l c k).binds h⟩
end Toy
namespace Toy
open PySem PySem.Spec PyProof.Rows L2
/-- room for calls, and nothing is being shown (repr, str of containers ask that) -/
structure RoomG (k : Nat) (A : Around) : Prop where
  room : Room k A
  idle : A.guards = some []
theorem RoomG.less {j k : Nat} {A : Around} (r : RoomG k A) (h : j ≤ k) : RoomG j A := ⟨r.room.mono h, r.idle⟩
theorem RoomG.units {k : Nat} {A : Around} (r : RoomG k A) : A.units + 64 < cLine := r.room.units
theorem RoomG.in_ {k : Nat} {A : Around} (r : RoomG (k + 1) A) (env : Env) : RoomG k (A.deeper env) := ⟨r.room.deeper env, r.idle⟩
/-- a def's promise under such a call -/
structure FnG (P : Program) (w : World) (K : PySem.W.Frag) (mg : Str → Option Value) (base : Heap) (CX : CXT) (k : Nat) (f : Addr) (fd : FuncData) (ps : List Str) (sp : Sp) : Prop where
  arity : ∀ vs H Q E, sp vs H Q E → vs.length = ps.length
  go : ∀ {A : Around} {outer : List Env} {s : Shared} {H : Hp} {args : Args} {us : List Value} {vs : List V} {Q : VK} {E : XK}, RoomG k A → Env0 P w K mg base A outer s H →
    BindsTo s fd args (ps.zip us) → Vals vs us → sp vs H Q E → codeAny (model P w) A (.call (.ref f) args) (CR CX outer P w H s Q E) s
section
variable {P : Program} {w : World} {K : PySem.W.Frag} {mg : Str → Option Value} {base : Heap} {CX : CXT}
/-- a body that ends well ends the call well -/
theorem flow_end {N : List Str} {qual : Str} {scope : Scope} {f : Addr} {cd : Value} {A : Around} {outer : List Env} {s : Shared} {H : Hp} {Q : VK} {E : XK} {fl : Flow} {s' : Shared}
    (h : SP (cxOf CX P w K mg base N qual scope f cd A outer s H E) [] { nx := fun _ H' => Q .non H', rt := Q } fl s') :
    ∃ u, (fl = .next ∧ u = Value.none ∨ fl = .ret u) ∧ CE outer P w H s Q u s' := by
  cases fl with
  | next =>
    obtain ⟨σ, H1, J, q⟩ := h
    exact ⟨_, .inl ⟨rfl, rfl⟩, .non, H1, J.os, J.bare, J.base, J.hok, rfl, q⟩
  | ret u =>
    obtain ⟨v, σ, H1, J, r, q⟩ := h
    exact ⟨u, .inr rfl, v, H1, J.os, J.bare, J.base, J.hok, r, q⟩
  | brk =>
    obtain ⟨_, _, _, q⟩ := h
    cases q
  | cont =>
    obtain ⟨_, _, _, q⟩ := h
    cases q
/-- a def of the text, whatever its defaults -/
structure FunA (K : PySem.W.Frag) (x qual : Str) (st : Stmt) (f : Addr) (fd : FuncData) : Prop where
  ex : ∃ (oc : Value) (od : Option Addr) (dV kV doc pm : Value) (an : Option Addr) (cdv ct : Value) (osl : Array (Option Value)),
    fd = PySem.W.fnOf x qual (defArgs st) (defBody st) (defScope st) dV kV doc pm an cdv ct ∧ K.lookup f = some ⟨oc, od, .func fd, osl⟩ ∧ PySem.W.codeIn K cdv qual = true
theorem toA {K : PySem.W.Frag} {x qual : Str} {st : Stmt} {f : Addr} {fd : FuncData} (F : Fun K x qual st f fd) : FunA K x qual st f fd := by
  obtain ⟨oc, od, kV, doc, pm, an, cdv, ct, osl, e, lk, hcd⟩ := F.ex
  exact ⟨⟨oc, od, .none, kV, doc, pm, an, cdv, ct, osl, e, lk, hcd⟩⟩
theorem okGA {x qual : Str} {st : Stmt} {f : Addr} {fd : FuncData} {N ps : List Str} {k : Nat} {sp : Sp} (F : FunA K x qual st f fd) (S : FnScope N ps (defScope st)) (ar : ∀ vs H Q E, sp vs H Q E → vs.length = ps.length)
    (body : ∀ (cdv : Value) (A : Around) (outer : List Env) (s : Shared) (H : Hp) (vs : List V) (Q : VK) (E : XK), RoomG k (A.deeper (envOfC qual (defScope st) s.heap.objs.size f cdv)) → sp vs H Q E →
      ∃ t, PSs (cxOf CX P w K mg base N qual (defScope st) f cdv A outer s H E) (defBody st) t ∧ t { nx := fun _ H' => Q .non H', rt := Q } (start N vs) H) : FnG P w K mg base CX (k + 1) f fd ps sp := by
  obtain ⟨oc, od, dV, kV, doc, pm, an, cdv, ct, osl, rfl, lk, hcd⟩ := F.ex
  refine ⟨ar, ?_⟩
  intro A outer s H args us vs Q E room e0 hb rv hsp
  have kin : K.In s.heap := e0.mod.kin.keeps fun b o z => (e0.bs b o z).1
  have nolim : s.heap.NoLimit := e0.mod.nolimit.keeps fun b o z => (e0.bs b o z).1
  have kinds : ∀ y ∈ ps.zip us, (defScope st).names.lookup y.1 = some .local ∨ ((defScope st).names.lookup y.1 = some .cell ∧ ((cellsFrom (s.heap.objs.size + 1) (defScope st).names []).lookup y.1).isSome = true) := by
    rintro ⟨n, v⟩ hy
    exact (S.par n (List.of_mem_zip hy).1).imp _root_.id fun q => ⟨q, PySem.W.cellsFrom_some _ _ _ (.inl q)⟩
  refine codeAny_call_function room.room.depth (kin _ _ lk) rfl S.co S.gen rfl (PySem.W.codeRec_of kin hcd) (hb _ _ _ _ (wpAny_newFunctionEnv_cells S.kind kinds fun env he s1 inC => ?_))
  subst he
  obtain ⟨t, ht, hq⟩ := body cdv A outer s H vs Q E (room.in_ _) hsp
  refine ⟨nolim.keeps inC.toInCall.keep, codeAny_func (wpAny_mono (ht.run [] s1 (start N vs) H _ (inv_start S room.room.hd e0 (ar _ _ _ _ hsp) rv inC) hq) (fun fl s' z => ?_) fun e s' z => z)⟩
  obtain ⟨u, c, q⟩ := flow_end z
  rcases c with ⟨rfl, rfl⟩ | rfl
  · exact q
  · exact q
theorem okG0A {x qual : Str} {st : Stmt} {f : Addr} {fd : FuncData} {N ps : List Str} {k : Nat} {sp : Sp} (F : FunA K x qual st f fd) (S : FnScope N ps (defScope st)) (ar : ∀ vs H Q E, sp vs H Q E → vs.length = ps.length)
    (body : ∀ (cdv : Value) (A : Around) (outer : List Env) (s : Shared) (H : Hp) (vs : List V) (Q : VK) (E : XK), RoomG k (A.deeper (envOfC qual (defScope st) s.heap.objs.size f cdv)) → sp vs H Q E →
      ∃ t, PSs (cxOf CX0 P w K mg base N qual (defScope st) f cdv A outer s H E).nox (defBody st) t ∧ t { nx := fun _ H' => Q .non H', rt := Q } (start N vs) H) : FnG P w K mg base CX0 (k + 1) f fd ps sp :=
  okGA F S ar fun cdv A outer s H vs Q E hr hsp => (body cdv A outer s H vs Q E hr hsp).imp fun _ z => ⟨z.1.nox, z.2⟩
theorem okG {x qual : Str} {st : Stmt} {f : Addr} {fd : FuncData} {N ps : List Str} {k : Nat} {sp : Sp} (F : Fun K x qual st f fd) (S : FnScope N ps (defScope st)) (ar : ∀ vs H Q E, sp vs H Q E → vs.length = ps.length)
    (body : ∀ (cdv : Value) (A : Around) (outer : List Env) (s : Shared) (H : Hp) (vs : List V) (Q : VK) (E : XK), RoomG k (A.deeper (envOfC qual (defScope st) s.heap.objs.size f cdv)) → sp vs H Q E →
      ∃ t, PSs (cxOf CX P w K mg base N qual (defScope st) f cdv A outer s H E) (defBody st) t ∧ t { nx := fun _ H' => Q .non H', rt := Q } (start N vs) H) : FnG P w K mg base CX (k + 1) f fd ps sp :=
  okGA (toA F) S ar body
theorem okG0 {x qual : Str} {st : Stmt} {f : Addr} {fd : FuncData} {N ps : List Str} {k : Nat} {sp : Sp} (F : Fun K x qual st f fd) (S : FnScope N ps (defScope st)) (ar : ∀ vs H Q E, sp vs H Q E → vs.length = ps.length)
    (body : ∀ (cdv : Value) (A : Around) (outer : List Env) (s : Shared) (H : Hp) (vs : List V) (Q : VK) (E : XK), RoomG k (A.deeper (envOfC qual (defScope st) s.heap.objs.size f cdv)) → sp vs H Q E →
      ∃ t, PSs (cxOf CX0 P w K mg base N qual (defScope st) f cdv A outer s H E).nox (defBody st) t ∧ t { nx := fun _ H' => Q .non H', rt := Q } (start N vs) H) : FnG P w K mg base CX0 (k + 1) f fd ps sp :=
  okG0A (toA F) S ar body
end
section
variable {X : Cx} {CX : CXT} {k : Nat} {f : Addr} {fd : FuncData} {ps : List Str} {sp : Sp}
theorem run_G {pins : List (Addr × Obj)} {σ : L2.St} {H : Hp} {s : Shared} {Q : VK} {E : XK} {us : List Value} {vs : List V} (F : FnG X.prog X.w X.K X.mg X.base CX k f fd ps sp) (hr : RoomG k X.A) (hb : Binds X.K fd ps [])
    (out : ∀ e s', CX X.stack H s E e s' → X.xe e s') (I : Inv X pins σ H s) (r : Vals vs us) (h : sp vs H Q E) : wpAny (model X.prog X.w) X.A (call (.ref f) us) (EP X pins σ Q) X.xe s := by
  have n := (r.length).symm.trans (F.arity _ _ _ _ h)
  have b := hb s us I.kIn (by rw [List.append_nil, n])
  rw [List.append_nil] at b
  refine wpAny_call (codeAny_mono (F.go hr I.env0 b r h) ?_)
  rintro (e | fl) s' q
  · exact out e s' q
  · match fl, q with
    | .ret u, q => exact I.after q
/-- a def and its promise, by its name -/
structure Dn (P : Program) (w : World) (K : PySem.W.Frag) (mg : Str → Option Value) (base : Heap) (k : Nat) (x : Str) (ps : List Str) (sp : Sp) : Prop where
  ex : ∃ f fd, FnG P w K mg base CX0 k f fd ps sp ∧ PySem.W.keepIn K (.ref f) = true ∧ mg x = some (.ref f) ∧ Binds K fd ps []
/-- .. that may raise -/
structure Dx (P : Program) (w : World) (K : PySem.W.Frag) (mg : Str → Option Value) (base : Heap) (k : Nat) (x : Str) (ps : List Str) (sp : Sp) : Prop where
  ex : ∃ f fd, FnG P w K mg base (L2.CX P w) k f fd ps sp ∧ PySem.W.keepIn K (.ref f) = true ∧ mg x = some (.ref f) ∧ Binds K fd ps []
theorem Df.ok {P : Program} {w : World} {K : PySem.W.Frag} {mg : Str → Option Value} {base : Heap} {x : Str} {st : Stmt} (D : Df K mg x st ps)
    (h : ∀ f fd, Fun K x x st f fd → FnG P w K mg base CX0 k f fd ps sp) : Dn P w K mg base k x ps sp := by
  obtain ⟨f, fd, F, m, b⟩ := D.ex
  exact ⟨f, fd, h f fd F, F.kp, m, b⟩
theorem Df.okX {P : Program} {w : World} {K : PySem.W.Frag} {mg : Str → Option Value} {base : Heap} {x : Str} {st : Stmt} (D : Df K mg x st ps)
    (h : ∀ f fd, Fun K x x st f fd → FnG P w K mg base (L2.CX P w) k f fd ps sp) : Dx P w K mg base k x ps sp := by
  obtain ⟨f, fd, F, m, b⟩ := D.ex
  exact ⟨f, fd, h f fd F, F.kp, m, b⟩
variable {x : Str} {p pos : Pos} {e : Expr} {es : List Expr} {t : TA}
theorem pe_cD (D : Dn X.prog X.w X.K X.mg X.base k x ps sp) (hr : RoomG k X.A) (hg : Gl X x) (ha : PA X (e :: es) t) (hdb : (x == ("__debug__" : Str)) = false := by decide)
    (he : starEach (e :: es) X.env = (false, eval e X.env) :: starEach es X.env := by rfl) (hpl : (backTo pos (starEach es X.env)).any (·.1) = false := by rfl) : PE X (.Call (.Name x p) (e :: es) [] pos) (tCall sp [] E0 t) := by
  obtain ⟨f, fd, F, hk, hm, hb⟩ := D.ex
  refine ⟨fun pins s σ H Q I h => wpAny_Call_Name_kw (ld_glob I hg hm (PySem.W.callWith_K (h₀ := X.base) I.ok.mod.kin hk (thn (ha.run pos pins s σ H _ I h) fun us s1 ⟨vs, H1, I1, r, q⟩ => ⟨I1.kIn, ?_⟩) he hpl) hdb)⟩
  have q' : sp vs H1 Q E0 := by
    have z : sp (vs ++ []) H1 Q E0 := q
    rw [List.append_nil] at z
    exact z
  exact run_G F hr hb (fun _ _ z => z.elim) I1 r q'
theorem pe_cD0 (D : Dn X.prog X.w X.K X.mg X.base k x ps sp) (hr : RoomG k X.A) (hg : Gl X x) (hdb : (x == ("__debug__" : Str)) = false := by decide) : PE X (.Call (.Name x p) [] [] pos) (tCall sp [] E0 tNil) := by
  obtain ⟨f, fd, F, hk, hm, hb⟩ := D.ex
  refine ⟨fun pins s σ H Q I h => wpAny_Call_Name_kw (ld_glob I hg hm (PySem.W.callWith_K0 I.kIn hk (run_G (us := []) F hr hb (fun _ _ z => z.elim) I .nil h)) hdb)⟩
/-- a def with defaults: dvs fill up -/
structure Dfd (K : PySem.W.Frag) (mg : Str → Option Value) (x : Str) (st : Stmt) (ps : List Str) (dvs : List V) : Prop where
  ex : ∃ (f : Addr) (fd : FuncData) (ds : List Value), FunA K x x st f fd ∧ PySem.W.keepIn K (.ref f) = true ∧ mg x = some (.ref f) ∧ Binds K fd ps ds ∧ Vals dvs ds
theorem Dfd.of {K : PySem.W.Frag} {mg : Str → Option Value} {x : Str} {st : Stmt} {ps : List Str} {dvs : List V} {f T : Addr} {oc : Value} {od an : Option Addr} {osl : Array (Option Value)} {kV doc pm cdv ct : Value} {o : Obj} {its : List Value} {n m : Nat}
    (l : K.lookup f = some ⟨oc, od, .func (PySem.W.fnOf x x (defArgs st) (defBody st) (defScope st) (.ref T) kV doc pm an cdv ct), osl⟩) (c : PySem.W.codeIn K cdv x = true) (k : PySem.W.keepIn K (.ref f) = true) (mx : mg x = some (.ref f))
    (lT : K.lookup T = some o) (oT : o.data = .seq its.toArray m) (rT : Vals dvs its) (hn : n + dvs.length = ps.length)
    (h : ∀ (us : List Value), us.length = n → ∃ kk, bindArgs (PySem.W.fnOf x x (defArgs st) (defBody st) (defScope st) (.ref T) kV doc pm an cdv ct) ⟨us, []⟩ = seqItems? (.ref T) >>= kk ∧ kk (some its.toArray) = pure (ps.zip (us ++ its))) : Dfd K mg x st ps dvs := by
  refine ⟨f, _, its, ⟨⟨_, _, _, _, _, _, _, _, _, _, rfl, l, c⟩⟩, k, mx, fun s us X hlen => ?_, rT⟩
  have l1 := rT.length
  have l2 : us.length = n := by
    rw [List.length_append] at hlen
    omega
  obtain ⟨kk, e1, e2⟩ := h us l2
  refine BindsTo.of_looks fun M => ?_
  rw [e1]
  exact looks_items X lT oT (.of_pure e2)
/-- .. all parameters given -/
theorem Dfd.ofAll {K : PySem.W.Frag} {mg : Str → Option Value} {x : Str} {st : Stmt} {ps : List Str} {f T : Addr} {oc : Value} {od an : Option Addr} {osl : Array (Option Value)} {kV doc pm cdv ct : Value} {o : Obj} {its : List Value} {n m : Nat}
    (l : K.lookup f = some ⟨oc, od, .func (PySem.W.fnOf x x (defArgs st) (defBody st) (defScope st) (.ref T) kV doc pm an cdv ct), osl⟩) (c : PySem.W.codeIn K cdv x = true) (k : PySem.W.keepIn K (.ref f) = true) (mx : mg x = some (.ref f))
    (lT : K.lookup T = some o) (oT : o.data = .seq its.toArray m) (hn : n = ps.length)
    (h : ∀ (us : List Value), us.length = n → ∃ kk, bindArgs (PySem.W.fnOf x x (defArgs st) (defBody st) (defScope st) (.ref T) kV doc pm an cdv ct) ⟨us, []⟩ = seqItems? (.ref T) >>= kk ∧ kk (some its.toArray) = pure (ps.zip us)) : Dfd K mg x st ps [] := by
  refine ⟨f, _, [], ⟨⟨_, _, _, _, _, _, _, _, _, _, rfl, l, c⟩⟩, k, mx, fun s us X hlen => ?_, .nil⟩
  have l2 : us.length = n := by
    rw [List.append_nil] at hlen
    omega
  obtain ⟨kk, e1, e2⟩ := h us l2
  refine BindsTo.of_looks fun M => ?_
  rw [e1, List.append_nil]
  exact looks_items X lT oT (.of_pure e2)
/-- .. and its promise -/
structure DnD (P : Program) (w : World) (K : PySem.W.Frag) (mg : Str → Option Value) (base : Heap) (k : Nat) (x : Str) (ps : List Str) (dvs : List V) (sp : Sp) : Prop where
  ex : ∃ (f : Addr) (fd : FuncData) (ds : List Value), FnG P w K mg base CX0 k f fd ps sp ∧ PySem.W.keepIn K (.ref f) = true ∧ mg x = some (.ref f) ∧ Binds K fd ps ds ∧ Vals dvs ds
theorem Dfd.ok {P : Program} {w : World} {K : PySem.W.Frag} {mg : Str → Option Value} {base : Heap} {x : Str} {st : Stmt} {dvs : List V} (D : Dfd K mg x st ps dvs)
    (h : ∀ f fd, FunA K x x st f fd → FnG P w K mg base CX0 k f fd ps sp) : DnD P w K mg base k x ps dvs sp := by
  obtain ⟨f, fd, ds, F, kp, m, b, d⟩ := D.ex
  exact ⟨f, fd, ds, h f fd F, kp, m, b, d⟩
theorem run_Gd {pins : List (Addr × Obj)} {σ : L2.St} {H : Hp} {s : Shared} {Q : VK} {E : XK} {us ds : List Value} {vs dvs : List V} (F : FnG X.prog X.w X.K X.mg X.base CX k f fd ps sp) (hr : RoomG k X.A) (hb : Binds X.K fd ps ds) (hd : Vals dvs ds)
    (out : ∀ e s', CX X.stack H s E e s' → X.xe e s') (I : Inv X pins σ H s) (r : Vals vs us) (h : sp (vs ++ dvs) H Q E) : wpAny (model X.prog X.w) X.A (call (.ref f) us) (EP X pins σ Q) X.xe s := by
  have r2 : Vals (vs ++ dvs) (us ++ ds) := r.append hd
  have n : (us ++ ds).length = ps.length := by rw [← r2.length]; exact F.arity _ _ _ _ h
  refine wpAny_call (codeAny_mono (F.go hr I.env0 (hb s us I.kIn n) r2 h) ?_)
  rintro (e | fl) s' q
  · exact out e s' q
  · match fl, q with
    | .ret u, q => exact I.after q
theorem pe_cDd {dvs : List V} (D : DnD X.prog X.w X.K X.mg X.base k x ps dvs sp) (hr : RoomG k X.A) (hg : Gl X x) (ha : PA X (e :: es) t) (hdb : (x == ("__debug__" : Str)) = false := by decide)
    (he : starEach (e :: es) X.env = (false, eval e X.env) :: starEach es X.env := by rfl) (hpl : (backTo pos (starEach es X.env)).any (·.1) = false := by rfl) : PE X (.Call (.Name x p) (e :: es) [] pos) (tCall sp dvs E0 t) := by
  obtain ⟨f, fd, ds, F, hk, hm, hb, hd⟩ := D.ex
  refine ⟨fun pins s σ H Q I h => wpAny_Call_Name_kw (ld_glob I hg hm (PySem.W.callWith_K (h₀ := X.base) I.ok.mod.kin hk (thn (ha.run pos pins s σ H _ I h) fun us s1 ⟨vs, H1, I1, r, q⟩ => ⟨I1.kIn, ?_⟩) he hpl) hdb)⟩
  exact run_Gd F hr hb hd (fun _ _ z => z.elim) I1 r q
/-- a call within a try: what is raised is wished at the slots -/
theorem pe_cX {E : L2.St → XK} (D : Dx X.prog X.w X.K X.mg X.base k x ps sp) (hr : RoomG k X.A) (hg : Gl X x) (hx : ∀ σ, PassesAt (L2.CX X.prog X.w) X σ (E σ)) (ha : PA X (e :: es) t) (hdb : (x == ("__debug__" : Str)) = false := by decide)
    (he : starEach (e :: es) X.env = (false, eval e X.env) :: starEach es X.env := by rfl) (hpl : (backTo pos (starEach es X.env)).any (·.1) = false := by rfl) : PE X (.Call (.Name x p) (e :: es) [] pos) (tCallS sp E t) := by
  obtain ⟨f, fd, F, hk, hm, hb⟩ := D.ex
  exact ⟨fun pins s σ H Q I h => wpAny_Call_Name_kw (ld_glob I hg hm (PySem.W.callWith_K (h₀ := X.base) I.ok.mod.kin hk (thn (ha.run pos pins s σ H _ I h) fun us s1 ⟨vs, H1, I1, r, q⟩ =>
    ⟨I1.kIn, run_G F hr hb (fun e s' z => hx σ pins H1 s1 e s' I1 z) I1 r q⟩) he hpl) hdb)⟩
/-- repr of what is data -/
def rRepr (K : PySem.W.Frag) : List V → Hp → VK → Prop := fun xs H Q => ∃ (x : V) (d : PyData), xs = [x] ∧ Dp K H x d ∧ d.showable = true ∧ d.depth ≤ 60 ∧ d.shown.length ≤ sizeLine ∧ Q (.str d.shown) H
mutual
theorem dp_noDict {K : PySem.W.Frag} {H : Hp} : ∀ (d : PyData) (x : V), Dp K H x d → d.hasDict = false
  | .none, _, _ => rfl
  | .bool _, _, _ => rfl
  | .int _, _, _ => rfl
  | .str _, _, _ => rfl
  | .list ds, _, h => by
    cases h with
    | lst _ ha => simpa [PyData.hasDict] using dp_noDicts ds _ ha
  | .tuple ds, _, h => by
    cases h with
    | tup _ ha => simpa [PyData.hasDict] using dp_noDicts ds _ ha
  | .dict _, _, h => by cases h
theorem dp_noDicts {K : PySem.W.Frag} {H : Hp} : ∀ (ds : List PyData) (xs : List V), DpAll K H xs ds → PyData.hasDictAll ds = false
  | [], _, _ => by simp [PyData.hasDictAll]
  | d :: ds, _, h => by
    cases h with
    | cons a b => simp [PyData.hasDictAll, dp_noDict d _ a, dp_noDicts ds _ b]
end
theorem reprK {K : PySem.W.Frag} (hr : RoomG k X.A) (eK : X.K = K := by rfl) : CallR X (.builtin "repr") (rRepr K) := by
  cases eK
  intro pins s σ H xs us Q I r h
  obtain ⟨x, d, rfl, hd, hs, hdep, hz, q⟩ := h
  obtain ⟨u, rfl, rx⟩ := vals1 r
  obtain ⟨as, rd⟩ := Dp.reads I d x u hd rx
  have hu := hr.units
  have nd := dp_noDict d x hd
  cases hd with
  | non => cases rx; exact PySem.P.repr_of_none ⟨.str _, H, I.tok _, ⟨_, rfl⟩, q⟩
  | bl b => cases rx; exact PySem.P.repr_of_bool ⟨.str _, H, I.tok _, ⟨_, rfl⟩, q⟩
  | int i => obtain ⟨t, rfl⟩ := rx; exact PySem.P.repr_of_int (of_decide_eq_true (by simpa [PyData.showable] using hs)) ⟨.str _, H, I.tok _, ⟨_, rfl⟩, q⟩
  | str z => obtain ⟨t, rfl⟩ := rx; exact PySem.P.repr_of_str ⟨.str _, H, I.tok _, ⟨_, rfl⟩, q⟩ hz
  | lst hq ha =>
    cases rx
    refine repr_of_reads' rd hs (PyData.noDict_hsm nd) hr.idle (by omega) (fun _ _ z => z) (fun h' u tk hk => ⟨.str _, H, I.kept hk, ⟨_, rfl⟩, q⟩) hz
  | tup hq ha =>
    cases rx
    refine repr_of_reads' rd hs (PyData.noDict_hsm nd) hr.idle (by omega) (fun _ _ z => z) (fun h' u tk hk => ⟨.str _, H, I.kept hk, ⟨_, rfl⟩, q⟩) hz
end
end Toy
namespace Toy
open PySem PySem.Spec PyProof.Rows L2
/-- what was tracked stays, but for one object -/
def But (p : Addr) (H H' : Hp) : Prop := ∀ b o, b ≠ p → H b = some o → H' b = some o
theorem But.refl {p : Addr} {H : Hp} : But p H H := fun _ _ _ h => h
theorem But.trans {p : Addr} {H H1 H2 : Hp} (a : But p H H1) (b : But p H1 H2) : But p H H2 := fun c o n h => b c o n (a c o n h)
theorem But.free {p : Addr} {H H' : Hp} (e : But p H H') {l : Addr} (n : l ≠ p) (h : H' l = Option.none) : H l = Option.none := by
  cases q : H l with
  | none => rfl
  | some o =>
    rw [e l o n q] at h
    cases h
theorem same_but {p : Addr} {H H' : Hp} (a : Same H H') : But p H H' := fun c o _ h => a c o h
theorem But.upd {p : Addr} {H : Hp} {o : HO} : But p H (upd H p o) := fun b u n h => by rw [upd_ne n]; exact h
theorem same_new {H : Hp} {p : Addr} (h : H p = none) (o : HO) : Same H (upd H p o) := fun b u q => by rw [upd_ne (ne_of_none q h)]; exact q
theorem but_tup {p : Addr} {K : PySem.W.Frag} {H H' : Hp} {a : Addr} {xs ys : List V} (e : But p H H') (hp : H p = some (.lst ys)) (h : SqT K H a xs) : SqT K H' a xs := by
  rcases h with (h | ⟨o, h⟩) | h
  · exact .inl (.inl (e _ _ (ne_of h hp (by intro z; cases z)) h))
  · exact .inl (.inr ⟨o, e _ _ (ne_of h hp (by intro z; cases z)) h⟩)
  · exact .inr h
theorem same_tup {K : PySem.W.Frag} {H H' : Hp} {a : Addr} {xs : List V} (e : Same H H') (h : SqT K H a xs) : SqT K H' a xs := by
  rcases h with (h | ⟨o, h⟩) | h
  · exact .inl (.inl (e _ _ h))
  · exact .inl (.inr ⟨o, e _ _ h⟩)
  · exact .inr h
/-- the script stays -/
theorem but_seq {p : Addr} {K : PySem.W.Frag} {H H' : Hp} {a : Addr} {xs : List V} (e : But p H H') (n : a ≠ p) (h : SqL K H a xs) : SqL K H' a xs := by
  rcases h with (h | ⟨o, h⟩) | h
  · exact .inl (.inl (e _ _ n h))
  · exact .inl (.inr ⟨o, e _ _ n h⟩)
  · exact .inr h
theorem small {n : Nat} (h : n ≤ 1000) : n ≤ sizeLine := Nat.le_of_lt (small1000 h)
theorem log_lt {i : Int} {n : Nat} (h0 : 0 < n) (h : i.natAbs < 2 ^ n) : i.natAbs.log2 < n := PySem.Flt.log2_lt_of h0 h
theorem divp_small {i j : Int} (hj : 0 < j) (h : j < 2 ^ 8000) : CDivP i j := by
  refine ⟨hj, PyProof.noPylong_of_log2 ?_⟩
  exact Nat.lt_trans (log_lt (n := 8000) (by decide) (by omega)) (by decide)
end Toy
namespace Toy
open PySem PySem.Spec PyProof.Rows L2
theorem ifT {c : Bool} {A B : Prop} (hc : c = true) (h : A) : if c = true then A else B := by rw [if_pos hc]; exact h
theorem ifF {c : Bool} {A B : Prop} (hc : c = false) (h : B) : if c = true then A else B := by rw [hc]; exact iteF h
theorem pj {j : Int} (h : decide ((0 : Int) < j) = true := by decide) : 0 < j := of_decide_eq_true h
theorem sz {xs : List V} (h : Nat.ble xs.length 1000 = true := by rfl) : xs.length ≤ sizeLine := small (Nat.le_of_ble_eq_true h)
theorem but_same {p : Addr} {H H1 H2 : Hp} (n : H p = none) (a : Same H H1) (b : But p H1 H2) : Same H H2 := fun c o h => b c o (ne_of_none h n) (a c o h)
/-- two ways of a value meet -/
theorem ifE {ta tb : TE} {σ : L2.St} {H : Hp} {Q : VK} {b : Bool} (R : V → Hp → Prop) (h : ∀ v H', R v H' → Q v H') (h1 : b = true → ∀ Q' : VK, (∀ v H', R v H' → Q' v H') → ta σ H Q') (h2 : b = false → ∀ Q' : VK, (∀ v H', R v H' → Q' v H') → tb σ H Q') :
    if b = true then ta σ H Q else tb σ H Q := by
  cases b with
  | true => exact iteT (h1 rfl Q h)
  | false => exact iteF (h2 rfl Q h)
theorem mulx {i j : Int} (a b : Nat) (ha : i.natAbs < 2 ^ a) (hb : j.natAbs < 2 ^ b) (h : a + b ≤ 134217728 := by decide) : CMulX i j := mulx_ok ha hb h
end Toy
namespace Toy
open PySem PySem.Spec PyProof.Rows L2
theorem qi {Q : VK} {H : Hp} {a b : Int} (q : Q (.int a) H) (e : a = b) : Q (.int b) H := e ▸ q
end Toy
namespace Toy
open PySem PySem.Spec PyProof.Rows L2
/-- the written part by its letter -/
theorem kk {α : Sort _} {P : α → Prop} {F : PySem.W.Frag → α} {K0 K : PySem.W.Frag} (h : P (F K0)) (e : K0 = K := by rfl) : P (F K) := e ▸ h
def rLen (K : PySem.W.Frag) : List V → Hp → VK → Prop := fun xs H Q => ∃ p ys, xs = [.ref p] ∧ (SqL K H p ys ∨ SqT K H p ys) ∧ Q (.int ys.length) H
theorem lenK {X : Cx} {K : PySem.W.Frag} (e : X.K = K := by rfl) : CallR X (.builtin "len") (rLen K) := by cases e; exact call_len_seq
def rLstOf (K : PySem.W.Frag) : List V → Hp → VK → Prop := fun xs H Q => ∃ p ys, xs = [.ref p] ∧ (SqL K H p ys ∨ SqT K H p ys) ∧ ∀ l, H l = none → Q (.ref l) (upd H l (.lst ys))
theorem lstOfK {X : Cx} {K : PySem.W.Frag} (e : X.K = K := by rfl) : CallR X (.type "list") (rLstOf K) := by cases e; exact call_list_of
def rTupOf (K : PySem.W.Frag) : List V → Hp → VK → Prop := fun xs H Q => ∃ p ys, xs = [.ref p] ∧ ((SqL K H p ys ∧ ∀ l, H l = none → Q (.ref l) (upd H l (.tup ys))) ∨ (SqT K H p ys ∧ Q (.ref p) H))
theorem tupOfK {X : Cx} {K : PySem.W.Frag} (e : X.K = K := by rfl) : CallR X (.type "tuple") (rTupOf K) := by cases e; exact call_tuple_of
theorem dec_ne {α : Type} [DecidableEq α] {a b : α} (h : a = b) : (!decide (a = b)) = false := by rw [decide_eq_true h] <;> rfl
end Toy
namespace Toy
open PySem PySem.Spec PyProof.Rows L2
/-- a tuple of the written part; a tuple that never changes -/
def KTup (K : PySem.W.Frag) (a : Addr) (xs : List V) : Prop := ∃ (o : Obj) (its : Array Value) (n : Nat), K.lookup a = some o ∧ o.cls = .type "tuple" ∧ o.data = .seq its n ∧ its.size ≤ sizeLine ∧ Vals xs its.toList
def TupAt (K : PySem.W.Frag) (H : Hp) (a : Addr) (xs : List V) : Prop := H a = some (.tup xs) ∨ KTup K a xs
theorem TupAt.sq {K : PySem.W.Frag} {H : Hp} {a : Addr} {xs : List V} (h : TupAt K H a xs) : SqT K H a xs := by
  rcases h with h | h
  · exact SqT.of h
  · exact .inr h
theorem TupAt.ty {K : PySem.W.Frag} {H : Hp} {a : Addr} {xs : List V} (h : TupAt K H a xs) : TyX K H (.ref a) (.type "tuple") := by
  rcases h with h | ⟨o, its, n, h1, h2, _⟩
  · exact .base (.tup h)
  · exact .kTuple h1 h2
theorem TupAt.same {K : PySem.W.Frag} {H H' : Hp} {a : Addr} {xs : List V} (e : Same H H') (h : TupAt K H a xs) : TupAt K H' a xs := h.imp (e _ _) id
theorem TupAt.but {K : PySem.W.Frag} {H H' : Hp} {a p : Addr} {xs ys : List V} (e : But p H H') (hp : H p = some (.lst ys)) (h : TupAt K H a xs) : TupAt K H' a xs := h.imp (fun h => e _ _ (ne_of h hp (by intro z; cases z)) h) id
end Toy
namespace Toy
open PySem PySem.Spec PyProof.Rows L2
theorem ints_dp {K : PySem.W.Frag} {H : Hp} : ∀ ns : List Int, DpAll K H (ns.map V.int) (ns.map PyData.int)
  | [] => .nil
  | n :: r => .cons (.int n) (ints_dp r)
theorem ints_sh (ns : List Int) : SeqAt.shaped (.list (ns.map PyData.int)) = true := PySem.W.ke_shaped_ints ns
theorem ints_refl (ns : List Int) : PyData.eqv (.list (ns.map PyData.int)) (.list (ns.map PyData.int)) = true := SeqAt.eqv_refl _ (SeqAt.canLay_of_shaped (ints_sh ns))
theorem lst_dp {K : PySem.W.Frag} {H : Hp} {a : Addr} {ns : List Int} (h : SqL K H a (ns.map V.int)) : Dp K H (.ref a) (.list (ns.map PyData.int)) := .lst h (ints_dp ns)
theorem tupI_dp {K : PySem.W.Frag} {H : Hp} {a : Addr} {ns : List Int} (h : SqT K H a (ns.map V.int)) : Dp K H (.ref a) (.tuple (ns.map PyData.int)) := .tup h (ints_dp ns)
theorem tupI_sh (ns : List Int) : SeqAt.shaped (.tuple (ns.map PyData.int)) = true := ints_sh ns
theorem tupI_refl (ns : List Int) : PyData.eqv (.tuple (ns.map PyData.int)) (.tuple (ns.map PyData.int)) = true := SeqAt.eqv_refl _ (SeqAt.canLay_of_shaped (tupI_sh ns))
theorem cut_map (us : List Int) (lo hi : Option Int) : ∃ ws : List Int, cutV (us.map V.int) lo hi = ws.map V.int ∧ ws.length ≤ us.length ∧ ∀ x ∈ ws, x ∈ us := by
  refine ⟨(us.drop (HT.sIx (us.map V.int).length 0 lo)).take (HT.sIx (us.map V.int).length (us.map V.int).length hi - HT.sIx (us.map V.int).length 0 lo), ?_, ?_, fun x hx => List.mem_of_mem_drop (List.mem_of_mem_take hx)⟩
  · unfold cutV; rw [List.map_take, List.map_drop]
  · rw [List.length_take, List.length_drop]; omega
theorem at_map {us : List Int} {i : Nat} {y : V} (h : (us.map V.int)[i]? = some y) : ∃ x : Int, y = .int x ∧ us[i]? = some x := by
  rw [List.getElem?_map] at h
  cases e : us[i]? with
  | none => rw [e] at h; cases h
  | some x => rw [e] at h; exact ⟨x, (Option.some.inj h).symm, rfl⟩
end Toy
namespace Toy
open PySem PySem.Spec PyProof.Rows L2
/-- the heap in which the script alone stands, unless the text's own part holds it -/
def scriptH (K : PySem.W.Frag) (a : Addr) (o : Obj) (ns : List Int) : Hp := fun c => if (K.lookup a).isNone = true ∧ c = a then some (.frz o (.lst (ns.map V.int))) else none
theorem scriptH_none {K : PySem.W.Frag} {a b : Addr} {o : Obj} {ns : List Int} : scriptH K a o ns b = none ∨ (b = a ∧ K.lookup a = none ∧ scriptH K a o ns b = some (.frz o (.lst (ns.map V.int)))) := by
  unfold scriptH
  by_cases c : (K.lookup a).isNone = true ∧ b = a
  · exact .inr ⟨c.2, Option.isNone_iff_eq_none.mp c.1, if_pos c⟩
  · exact .inl (if_neg c)
theorem law_G {P : Program} {w : World} {K : PySem.W.Frag} {mg mb : Str → Option Value} {k : Nat} {fa a : Addr} {fd : FuncData} {x : Str} {sp : Sp} {s : Shared} {vs : List Value} {ns : List Int}
    (KX : K.In s.heap) (hns : s.heap.Ns mainGlobals mg) (hb : s.heap.Ns builtinsNs mb) (hbb : ∀ x : Str, x ≠ "__name__" → mb x = bootBuiltins x) (hlim : s.heap.NoLimit) (hg : s.gens = #[])
    (ha : s.heap.get? a = some { cls := .type "list", data := .seq vs.toArray }) (hi : IntsAre vs ns) (hl : ns.length ≤ sizeLine) (hr : Room k PySem.callerA)
    (F : ∀ base : Heap, K.In base → base.Ns mainGlobals mg → FnG P w K mg base CX0 k fa fd [x] sp) (hbind : ∀ (s : Shared) (u : Value), BindsTo s fd ⟨[u], []⟩ [(x, u)])
    (hsp : ∀ H : Hp, SqL K H a (ns.map V.int) → sp [.ref a] H (fun v _ => v = .bl true) fun _ _ _ => False) :
    codeAny (model P w) PySem.callerA (.call (.ref fa) ⟨[.ref a], []⟩) (fun r s' => r = .ok (.ret (.bool true)) ∧ OldK s.heap s'.heap ∧ s'.os = s.os ∧ AllBare s'.gens) s := by
  let H : Hp := scriptH K a { cls := .type "list", data := .seq vs.toArray } ns
  have hH : ∀ b, H b = none ∨ (b = a ∧ K.lookup a = none ∧ H b = some (.frz { cls := .type "list", data := .seq vs.toArray } (.lst (ns.map V.int)))) := fun b => scriptH_none
  have rv := vals_ints hi
  have hok : HOk P w H s.heap := by
    intro b u e
    rcases hH b with z | ⟨rfl, _, z⟩
    · rw [z] at e; cases e
    · rw [z] at e
      cases e
      exact ⟨ha, by rw [List.length_map]; exact hl, vs, _, rv, ha⟩
  have hS : SqL K H a (ns.map V.int) := by
    cases q : K.lookup a with
    | none => exact .inl (.inr ⟨_, show scriptH K a _ ns a = _ from if_pos ⟨by rw [q] <;> rfl, rfl⟩⟩)
    | some o =>
      have e := KX a o q
      rw [ha] at e
      cases e
      exact .inr ⟨_, vs.toArray, _, q, rfl, rfl, rfl, by rw [List.size_toArray, hi.length]; exact hl, by simpa using rv⟩
  -- what is no list is not the script
  have notA : ∀ {b : Addr} {o : Obj} {es : Array DictEntry} {ep : Nat}, s.heap.get? b = some o → o.data = .dict es ep → H b = none := by
    intro b o es ep e d
    rcases hH b with z | ⟨rfl, _, _⟩
    · exact z
    · rw [ha] at e
      cases e
      cases (show Data.seq vs.toArray _ = Data.dict es ep from d)
  have ns' : ∀ {b : Addr} {m : Str → Option Value}, s.heap.Ns b m → (hidT s.heap H).Ns b m := by
    rintro b m ⟨o, es, ep, e, d, r⟩
    exact ⟨o, es, ep, hidT_get e (notA e d), d, r⟩
  have kin' : K.In (hidT s.heap H) := by
    intro b o e
    refine hidT_get (KX b o e) ?_
    rcases hH b with z | ⟨rfl, q, _⟩
    · exact z
    · rw [q] at e; cases e
  have md : Mod K mg (hidT s.heap H) := ⟨kin', ns' hns, ⟨mb, ns' hb, hbb⟩, hlim.imp fun _ z => ⟨ns' z.1, z.2⟩⟩
  have e0 : Env0 P w K mg (hidT s.heap H) PySem.callerA [] s H := ⟨rfl, md, fun _ _ z => of_hidT z, Nat.le_of_eq (hidT_size _ _), trivial, (by intro b z; cases z), hok, .of_eq hg⟩
  refine codeAny_mono ((F _ kin' (ns' hns)).go (us := [.ref a]) (vs := [.ref a]) ⟨hr, rfl⟩ e0 (hbind s (.ref a)) (.cons rfl .nil) (hsp H hS)) ?_
  rintro (e | fl) s' q
  · exact q.elim
  match fl, q with
  | .ret u, ⟨v, H', os, bare, un, ok', r', q⟩ =>
    have q' : v = .bl true := q
    subst q'
    obtain rfl : u = Value.bool true := r'
    refine ⟨rfl, OldK.of_keep fun b o e => ?_, os, bare⟩
    rcases hH b with z | ⟨_, _, z⟩
    · exact un.keep b o e z (by intro y; cases y) (by intro y; cases y)
    · have z1 := (hok b _ z).1
      have z2 := (ok' b _ (un.frzs b _ _ z)).1
      rw [e] at z1
      cases z1
      exact z2
theorem walk_G {l : PySem.W.OpenLaw} {n k : Nat} {q : Program} {loose : List Str} {XP : (Str → Option Value) → Heap → Prop} {YP : World → Heap → Prop} {d : DefRec} {K : Params → PySem.W.Frag} {sp : PySem.W.Frag → Sp} {x : Str}
    (hn : l.most = some n) (hn2 : n ≤ sizeLine) (hdf : d.params.defaults = []) (hr : Room k PySem.callerA) (hY : ∀ (w : World) (h : Heap), YP w h → (K w.params).In h)
    (F : ∀ (w : World) (mg : Str → Option Value) (fa : Addr) (h : Heap), (K w.params).In h → h.Ns mainGlobals mg → mg d.name = some (.ref fa) →
      ∃ fd : FuncData, (∀ (s : Shared) (u : Value), BindsTo s fd ⟨[u], []⟩ [(x, u)]) ∧ ∀ base : Heap, (K w.params).In base → base.Ns mainGlobals mg → FnG l.prog w (K w.params) mg base CX0 k fa fd [x] (sp (K w.params)))
    (hsp : ∀ (K : PySem.W.Frag) (H : Hp) (a : Addr) (ns : List Int), ns.length ≤ n → SqL K H a (ns.map V.int) → sp K [.ref a] H (fun v _ => v = .bl true) fun _ _ _ => False) :
    PySem.W.WalkO q loose XP YP l.row.toRowW d [] (fun f vs => PySem.call f vs) :=
  Att.attach_call hn hdf fun w s0 s1 mg mb fa o pm cd doc a vs ns G Y ho hd hcd hmg hobj hints hlen hg => by
    have KX := hY w _ Y
    obtain ⟨fd, hbd, hF⟩ := F w mg fa _ KX G.T.g hmg
    exact law_G KX G.T.g G.T.b G.T.builtins G.T.nolimit hg hobj hints (Nat.le_trans hlen hn2) hr hF hbd fun H hS => hsp _ H a ns hlen hS
end Toy
namespace Toy
open PySem PySem.Spec PyProof.Rows L2
/-! ### how long a shown datum is -/
mutual
def cst : PyData → Nat
  | .none => 5
  | .bool _ => 5
  | .int _ => 1921
  | .str x => (reprText x).length
  | .list xs => csts xs + 4
  | .tuple xs => csts xs + 4
  | .dict _ => 0
def csts : List PyData → Nat
  | [] => 0
  | x :: xs => cst x + 4 + csts xs
end
theorem tupT_len (ts : List Str) : (tupleText ts).length ≤ piled ts + 4 := by
  unfold tupleText
  rw [strLen_append, strLen_append]
  have e1 : ((("(" : String) : Str)).length = 1 := rfl
  have e3 : (((if ts.length == 1 then ",)" else ")" : String) : Str)).length ≤ 2 := by split <;> decide +kernel
  by_cases h : ts = []
  · subst h; decide +kernel
  · have := join_length_add ts h; omega
theorem txtFrom_len : ∀ (ts : List Str) (k : Nat) (acc : Str), (textFrom k acc ts).length ≤ acc.length + piled ts
  | [], k, acc => Nat.le_add_right _ _
  | t :: r, k, acc => by
    have h := txtFrom_len r (k + 1) (acc ++ (if k > 0 then ", " else "" : String) ++ t)
    have e : (acc ++ (if k > 0 then ", " else "" : String) ++ t).length = acc.length + (if k > 0 then 2 else 0) + t.length := by
      rw [strLen_append, strLen_append]
      split <;> rfl
    rw [e] at h
    rw [piled_cons]
    have h2 : (textFrom k acc (t :: r)).length = (textFrom (k + 1) (acc ++ (if k > 0 then ", " else "" : String) ++ t) r).length := rfl
    rw [h2]
    have e2 : (if k > 0 then 2 else 0) ≤ 2 := by split <;> omega
    omega
theorem lstT_len (ts : List Str) : (listText ts).length ≤ piled ts + 4 := by
  unfold listText
  rw [strLen_append]
  have h := txtFrom_len ts 0 "["
  have e1 : ((("[" : String) : Str)).length = 1 := rfl
  have e2 : ((("]" : String) : Str)).length = 1 := rfl
  omega
mutual
theorem shown_le : ∀ d : PyData, d.showable = true → d.hasDict = false → d.shown.length ≤ cst d
  | .none, _, _ => by show (("None" : String) : Str).length ≤ 5; decide +kernel
  | .bool b, _, _ => by cases b <;> (show _ ≤ 5; decide +kernel)
  | .int i, h, _ => PyProof.Rows.int_text_len_1921 (of_decide_eq_true (by simpa [PyData.showable] using h))
  | .str x, _, _ => Nat.le_refl _
  | .list ds, h, g => by
    have h1 := showns_le ds (by simpa [PyData.showable] using h) (by simpa [PyData.hasDict] using g)
    have h2 := lstT_len (PyData.shownAll ds)
    show (listText (PyData.shownAll ds)).length ≤ csts ds + 4
    omega
  | .tuple ds, h, g => by
    have h1 := showns_le ds (by simpa [PyData.showable] using h) (by simpa [PyData.hasDict] using g)
    have h2 := tupT_len (PyData.shownAll ds)
    show (tupleText (PyData.shownAll ds)).length ≤ csts ds + 4
    omega
  | .dict _, _, g => by simp [PyData.hasDict] at g
theorem showns_le : ∀ ds : List PyData, PyData.showableAll ds = true → PyData.hasDictAll ds = false → piled (PyData.shownAll ds) ≤ csts ds
  | [], _, _ => Nat.le_refl _
  | d :: ds, h, g => by
    have h1 := shown_le d (by simp [PyData.showableAll] at h; exact h.1) (by simp [PyData.hasDictAll] at g; exact g.1)
    have h2 := showns_le ds (by simp [PyData.showableAll] at h; exact h.2) (by simp [PyData.hasDictAll] at g; exact g.2)
    show piled (d.shown :: PyData.shownAll ds) ≤ _
    rw [piled_cons]
    show _ ≤ cst d + 4 + csts ds
    omega
end
theorem shown_sz {d : PyData} (h : d.showable = true) (g : d.hasDict = false) (c : cst d ≤ 10000000) : d.shown.length ≤ sizeLine :=
  Nat.le_trans (shown_le d h g) (Nat.le_trans c (by decide))
end Toy
namespace Toy
open PySem PySem.Spec PyProof.Rows L2
/-- a list of ints grown by a part of another one -/
theorem ext_cut {L z : Addr} {ws es : List Int} {lo hi : Option Int} {H : Hp} {R : VK} (hL : H L = some (.lst (ws.map V.int))) (hz : H z = some (.lst (cutV (es.map V.int) lo hi))) (hs : ws.length + es.length ≤ 1000)
    (q : ∀ us : List Int, us.length ≤ es.length → (∀ x ∈ us, x ∈ es) → R .non (upd H L (.lst ((ws ++ us).map V.int)))) : rExtend (.ref L) [.ref z] H R := by
  obtain ⟨us, e, h1, h2⟩ := cut_map es lo hi
  rw [e] at hz
  refine ⟨L, z, _, _, rfl, rfl, hL, hz, small (by rw [List.length_map, List.length_map]; omega), ?_⟩
  have := q us h1 h2
  rw [List.map_append] at this
  exact this
theorem rep_len {n : Nat} : ((List.replicate n true).map V.bl).length = n := by rw [List.length_map, List.length_replicate]
theorem rep_snoc {n : Nat} : (List.replicate n true).map V.bl ++ [V.bl true] = (List.replicate (n + 1) true).map V.bl := by rw [List.replicate_succ', List.map_append] <;> rfl
theorem rep_all (n : Nat) : (List.replicate n true).all id = true := by rw [List.all_eq_true]; intro x hx; rw [List.mem_replicate] at hx; exact hx.2
theorem ixn {n j : Nat} (hj : j < n) : ixN n (j : Int) = some j := by
  unfold ixN
  rw [if_pos (by omega), if_pos (by omega)]
  exact congrArg some (Int.toNat_natCast j)
theorem dec_self (a : V) : decide (a = a) = true := decide_eq_true rfl
end Toy
namespace Toy
open PySem PySem.Spec PyProof.Rows L2
/-- a comprehension within a comprehension -/
theorem relabel_kept {env : Env} : ∀ {names : List (Str × NameKind)} {x : Str}, names.lookup x = some .cell ∨ names.lookup x = some .free →
    (names.map fun (n, k) => if (k == NameKind.free && env.scope.kind == .function && env.kindOf n == some .cell) then (n, NameKind.cell) else (n, k)).lookup x = some .cell ∨
    (names.map fun (n, k) => if (k == NameKind.free && env.scope.kind == .function && env.kindOf n == some .cell) then (n, NameKind.cell) else (n, k)).lookup x = some .free
  | [], _, h => by simp at h
  | (n, k) :: r, x, h => by
    have ih := @relabel_kept env r x
    show List.lookup x ((if (k == NameKind.free && env.scope.kind == .function && env.kindOf n == some .cell) = true then (n, NameKind.cell) else (n, k)) :: _) = _ ∨ List.lookup x ((if (k == NameKind.free && env.scope.kind == .function && env.kindOf n == some .cell) = true then (n, NameKind.cell) else (n, k)) :: _) = _
    cases hx : x == n with
    | true =>
      simp only [List.lookup_cons, hx] at h
      by_cases hc : (k == NameKind.free && env.scope.kind == .function && env.kindOf n == some .cell) = true
      · rw [if_pos hc]; exact .inl (by simp [List.lookup_cons, hx])
      · rw [if_neg hc]; simp only [List.lookup_cons, hx]; exact h
    | false =>
      simp only [List.lookup_cons, hx] at h
      by_cases hc : (k == NameKind.free && env.scope.kind == .function && env.kindOf n == some .cell) = true
      · rw [if_pos hc]; simp only [List.lookup_cons, hx]; exact ih h
      · rw [if_neg hc]; simp only [List.lookup_cons, hx]; exact ih h
theorem blkOk_nest {X : Cx} {s : Shared} {H : Hp} {scope1 scope : Scope} {cl : List (Str × Addr)} {C : Addr} {env : Env} {fp : List Addr} {own : List (Str × Nat)} {N : List Str} (hN : X.N = N) (h : blkC N scope1 scope own = true) :
    BlkOk (X.blk s H scope1 (compEnvC scope1 cl C env) fp).N (X.blk s H scope1 (compEnvC scope1 cl C env) fp).env.scope scope own := by
  subst hN
  obtain ⟨h1, h2, h3, h4, h5⟩ := blkOk_by h
  exact ⟨h1, h2, h3, fun y hy e => relabel_kept (h4 y hy e), h5⟩
end Toy
namespace Toy
open PySem PySem.Spec PyProof.Rows L2
/-! ### own classes -/
/-- where a name's class stands -/
def cAt (mg : Str → Option Value) (x : Str) : Addr := match mg x with | some (.ref C) => C | _ => 0
theorem cAt_eq {mg : Str → Option Value} {x : Str} {C : Addr} (h : mg x = some (.ref C)) : cAt mg x = C := by unfold cAt; rw [h]
structure ClsF (K : PySem.W.Frag) (mg : Str → Option Value) (x : Str) (fs : List Str) : Prop where
  mg_ : mg x = some (.ref (cAt mg x))
  cl : Cls K (cAt mg x)
  no : ∀ f ∈ fs, NoAttr K (cAt mg x) f
theorem ClsF.of {K : PySem.W.Frag} {mg : Str → Option Value} {x : Str} {C : Addr} {fs : List Str} (m : mg x = some (.ref C)) (c : Cls K C) (n : ∀ f ∈ fs, NoAttr K C f) : ClsF K mg x fs := by
  have e := cAt_eq m
  exact ⟨by rw [e]; exact m, by rw [e]; exact c, by rw [e]; exact n⟩
/-- a method, by its class -/
structure DfM (K : PySem.W.Frag) (C : Addr) (m q : Str) (st : Stmt) (ps : List Str) : Prop where
  ex : ∃ f fd, Fun K m q st f fd ∧ Meth K C m f ∧ Binds K fd ps []
theorem DfM.of {K : PySem.W.Frag} {mg : Str → Option Value} {x m q : Str} {st : Stmt} {ps : List Str} {f C : Addr} {oc : Value} {od an : Option Addr} {osl : Array (Option Value)} {kV doc pm cdv ct : Value} (hC : mg x = some (.ref C))
    (a : PySem.W.findIn K (.ref C) m = some (some (.ref f))) (i : PySem.W.isFn K (.ref f) = true)
    (l : K.lookup f = some ⟨oc, od, .func (PySem.W.fnOf m q (defArgs st) (defBody st) (defScope st) .none kV doc pm an cdv ct), osl⟩) (c : PySem.W.codeIn K cdv q = true) (k : PySem.W.keepIn K (.ref f) = true)
    (h : ∀ (kV doc pm : Value) (an : Option Addr) (cdv ct : Value) (us : List Value), us.length = ps.length → bindArgs (PySem.W.fnOf m q (defArgs st) (defBody st) (defScope st) .none kV doc pm an cdv ct) ⟨us, []⟩ = pure (ps.zip us)) : DfM K (cAt mg x) m q st ps := by
  rw [cAt_eq hC]
  exact ⟨_, _, fun_mk l c k, ⟨a, i, k⟩, (fun_mk l c k).binds h⟩
structure DnM (P : Program) (w : World) (K : PySem.W.Frag) (mg : Str → Option Value) (base : Heap) (C : Addr) (k : Nat) (m : Str) (ps : List Str) (sp : Sp) : Prop where
  ex : ∃ f fd, FnG P w K mg base CX0 k f fd ps sp ∧ Meth K C m f ∧ Binds K fd ps []
theorem DfM.ok {P : Program} {w : World} {K : PySem.W.Frag} {mg : Str → Option Value} {base : Heap} {C : Addr} {m q : Str} {st : Stmt} {ps : List Str} {k : Nat} {sp : Sp} (D : DfM K C m q st ps)
    (h : ∀ f fd, Fun K m q st f fd → FnG P w K mg base CX0 k f fd ps sp) : DnM P w K mg base C k m ps sp := by
  obtain ⟨f, fd, F, mt, b⟩ := D.ex
  exact ⟨f, fd, h f fd F, mt, b⟩
/-- the maker of a class -/
structure DfI (K : PySem.W.Frag) (C : Addr) (q : Str) (st : Stmt) (ps : List Str) : Prop where
  ex : ∃ f fd, Fun K "__init__" q st f fd ∧ Mk K C f ∧ Binds K fd ps []
theorem DfI.of {K : PySem.W.Frag} {mg : Str → Option Value} {x q : Str} {st : Stmt} {ps : List Str} {f C : Addr} {oc : Value} {od an : Option Addr} {osl : Array (Option Value)} {kV doc pm cdv ct : Value} (hC : mg x = some (.ref C))
    (a : PySem.W.findIn K (.ref C) "__init__" = some (some (.ref f))) (i : PySem.W.isFn K (.ref f) = true)
    (l : K.lookup f = some ⟨oc, od, .func (PySem.W.fnOf "__init__" q (defArgs st) (defBody st) (defScope st) .none kV doc pm an cdv ct), osl⟩) (c : PySem.W.codeIn K cdv q = true) (k : PySem.W.keepIn K (.ref f) = true)
    (mk : PySem.W.makesIn K C = true) (kc : PySem.W.keepIn K (.ref C) = true)
    (h : ∀ (kV doc pm : Value) (an : Option Addr) (cdv ct : Value) (us : List Value), us.length = ps.length → bindArgs (PySem.W.fnOf "__init__" q (defArgs st) (defBody st) (defScope st) .none kV doc pm an cdv ct) ⟨us, []⟩ = pure (ps.zip us)) : DfI K (cAt mg x) q st ps := by
  rw [cAt_eq hC]
  exact ⟨_, _, fun_mk l c k, ⟨mk, a, i, kc⟩, (fun_mk l c k).binds h⟩
structure DnI (P : Program) (w : World) (K : PySem.W.Frag) (mg : Str → Option Value) (base : Heap) (C : Addr) (k : Nat) (ps : List Str) (sp : Sp) : Prop where
  ex : ∃ f fd, FnG P w K mg base CX0 k f fd ps sp ∧ Mk K C f ∧ Binds K fd ps []
theorem DfI.ok {P : Program} {w : World} {K : PySem.W.Frag} {mg : Str → Option Value} {base : Heap} {C : Addr} {q : Str} {st : Stmt} {ps : List Str} {k : Nat} {sp : Sp} (D : DfI K C q st ps)
    (h : ∀ f fd, Fun K "__init__" q st f fd → FnG P w K mg base CX0 k f fd ps sp) : DnI P w K mg base C k ps sp := by
  obtain ⟨f, fd, F, mt, b⟩ := D.ex
  exact ⟨f, fd, h f fd F, mt, b⟩
theorem RoomG.make {k : Nat} {A : Around} (r : RoomG (k + 1) A) (C : Addr) (us : List Value) (kw : List (Str × Value)) : RoomG k (A.under (.builtin "type.__call__" ⟨.ref C :: us, kw⟩)) :=
  ⟨r.room.make C us kw, r.idle⟩
section
variable {X : Cx} {k : Nat} {C : Addr} {ps : List Str} {sp : Sp} {x m : Str} {p pos apos : Pos} {e o : Expr} {es : List Expr} {ta : TE} {t : TA}
theorem pe_mG {pl : Sem Bool} (D : DnM X.prog X.w X.K X.mg X.base C k m ps sp) (c : Cls X.K C) (hr : RoomG k X.A) (he : PE X o ta) (ha : PA X (e :: es) t)
    (hst : starEach (e :: es) X.env = (false, eval e X.env) :: starEach es X.env := by rfl) (hpl : (backTo pos (starEach es X.env)).any (·.1) = false := by rfl)
    (ht : eval (.Call (.Attribute o m apos) (e :: es) [] pos) X.env = (do
      let ov ← eval o X.env
      standAt apos.atName
      let (f, first) ← holding [ov] (getMethod ov m pl)
      callWith pos f first (backTo pos (starEach (e :: es) X.env)) (backToKw pos (keywordEach [] X.env))) := by rfl) :
    PE X (.Call (.Attribute o m apos) (e :: es) [] pos) (tMeth C m sp [] E0 ta t) := by
  obtain ⟨f, fd, F, hm, hb⟩ := D.ex
  refine ⟨fun pins s σ H Q I h => ?_⟩
  refine PySem.W.methodCall_KW (pl := pl) (thn (he.run pins s σ H _ I h) fun u s1 ⟨x, H1, I1, rx, a, dx, fs, ex, ea, l, q⟩ => ?_) ht
  subst ex
  obtain rfl : u = Value.ref a := rx
  refine getmeth_ok I1 ea c hm l ?_
  refine PySem.W.callWith_K (first := [.ref a]) (h₀ := X.base) I.ok.mod.kin hm.kp (thn (ha.run pos pins s1 σ H1 _ I1 q) fun us s2 ⟨vs, H2, I2, r, q2⟩ => ⟨I2.kIn, ?_⟩) hst hpl
  have q' : sp (.ref a :: vs) H2 Q E0 := by
    have z : sp (.ref a :: (vs ++ [])) H2 Q E0 := q2
    rw [List.append_nil] at z
    exact z
  exact run_G (us := .ref a :: us) (vs := .ref a :: vs) F hr hb (fun _ _ z => z.elim) I2 (.cons rfl r) q'
theorem pe_mG0 {pl : Sem Bool} (D : DnM X.prog X.w X.K X.mg X.base C k m ps sp) (c : Cls X.K C) (hr : RoomG k X.A) (he : PE X o ta)
    (ht : eval (.Call (.Attribute o m apos) [] [] pos) X.env = (do
      let ov ← eval o X.env
      standAt apos.atName
      let (f, first) ← holding [ov] (getMethod ov m pl)
      callWith pos f first (backTo pos (starEach [] X.env)) (backToKw pos (keywordEach [] X.env))) := by rfl) :
    PE X (.Call (.Attribute o m apos) [] [] pos) (tMeth C m sp [] E0 ta tNil) := by
  obtain ⟨f, fd, F, hm, hb⟩ := D.ex
  refine ⟨fun pins s σ H Q I h => ?_⟩
  refine PySem.W.methodCall_KW (pl := pl) (thn (he.run pins s σ H _ I h) fun u s1 ⟨x, H1, I1, rx, a, dx, fs, ex, ea, l, q⟩ => ?_) ht
  subst ex
  obtain rfl : u = Value.ref a := rx
  refine getmeth_ok I1 ea c hm l ?_
  exact PySem.W.callWith_K0 (first := [.ref a]) I1.kIn hm.kp (run_G (us := [.ref a]) (vs := [.ref a]) F hr hb (fun _ _ z => z.elim) I1 (.cons rfl .nil) q)
theorem run_mkG {pins : List (Addr × Obj)} {σ : L2.St} {H : Hp} {s : Shared} {Q : VK} {us : List Value} {vs : List V} {f : Addr} {fd : FuncData} (M : Mk X.K C f) (F : FnG X.prog X.w X.K X.mg X.base CX0 k f fd ps sp) (hr : RoomG (k + 1) X.A) (hb : Binds X.K fd ps [])
    (I : Inv X pins σ H s) (r : Vals vs us)
    (h : ∀ x dx, H x = none → H dx = none → dx ≠ x → sp (.ref x :: vs) (upd (upd H dx (.own x)) x (.ins C dx [])) (fun v H2 => v = .non ∧ Q (.ref x) H2) E0) :
    wpAny (model X.prog X.w) X.A (call (.ref C) us) (EP X pins σ Q) X.xe s := by
  have hq := h (s.heap.objs.size + 1) s.heap.objs.size (I.hok.fresh (Nat.le_succ _)) (I.hok.fresh (Nat.le_refl _)) (Nat.ne_of_lt (Nat.lt_succ_self _))
  have I2 := Inv.made (C := C) I
  have r2 : Vals (V.ref (s.heap.objs.size + 1) :: vs) (Value.ref (s.heap.objs.size + 1) :: us) := .cons rfl r
  have hl : (Value.ref (s.heap.objs.size + 1) :: us).length = ps.length := by
    rw [← r2.length]
    exact F.arity _ _ _ _ hq
  have b := hb { s with heap := _ } (Value.ref (s.heap.objs.size + 1) :: us) I2.kIn (by rw [List.append_nil]; exact hl)
  rw [List.append_nil] at b
  refine wpAny_call (make_map (f := f) I.kIn M.makes M.init (beq_iff_eq.mp M.fn) (codeAny_mono (F.go (hr.make C us []) (I2.env0.make C us []) b r2 hq) fun r s' hq' => ?_))
  cases r with
  | error e => exact hq'.elim
  | ok fl =>
    match fl, hq' with
    | .ret u, hq' =>
      obtain ⟨v, H', I3, rv, ev, q3⟩ := I2.after hq'
      subst ev
      exact ⟨rv, ⟨V.ref (s.heap.objs.size + 1), H', I3, rfl, q3⟩⟩
theorem pe_mkG (D : DnI X.prog X.w X.K X.mg X.base C k ps sp) (hr : RoomG (k + 1) X.A) (hg : Gl X x) (hm : X.mg x = some (.ref C)) (ha : PA X (e :: es) t) (hdb : (x == ("__debug__" : Str)) = false := by decide)
    (he : starEach (e :: es) X.env = (false, eval e X.env) :: starEach es X.env := by rfl) (hpl : (backTo pos (starEach es X.env)).any (·.1) = false := by rfl) :
    PE X (.Call (.Name x p) (e :: es) [] pos) (tMake C sp [] E0 t) := by
  obtain ⟨f, fd, F, M, hb⟩ := D.ex
  refine ⟨fun pins s σ H Q I h => ?_⟩
  refine wpAny_Call_Name_kw (ld_glob I hg hm ?_ hdb)
  refine PySem.W.callWith_K (h₀ := X.base) I.ok.mod.kin M.kp (thn (ha.run pos pins s σ H _ I h) fun us s1 ⟨vs, H1, I1, r, q⟩ => ⟨I1.kIn, ?_⟩) he hpl
  exact run_mkG M F hr hb I1 r fun x dx h1 h2 h3 => by
    have z := q x dx h1 h2 h3
    rw [List.append_nil] at z
    exact z
/-- o.f, as a target -/
def gFld (K : PySem.W.Frag) (to : TE) (f : Str) : TG := fun v σ H Q => to σ H fun x H1 => ∃ a C dx fs, x = .ref a ∧ H1 a = some (.ins C dx fs) ∧ Cls K C ∧ NoAttr K C f ∧ fs.length < 1000 ∧ Q σ (upd H1 a (.ins C dx (putF f v fs)))
theorem pg_fld {f : Str} {to : TE} (ho : PE X o to) : PG X (.Attribute o f pos) (gFld X.K to f) := by
  refine ⟨fun pins s σ H v u Q I r h => ?_⟩
  rw [assign_Attribute]
  refine wpAny_bind (wpAny_holding (thn (ho.run pins s σ H _ I h) fun ov s1 ⟨x, H1, I1, rx, a, C, dx, fs, ex, ea, c, n, l, q⟩ => ?_))
  subst ex
  obtain rfl : ov = Value.ref a := rx
  refine wpAny_bind (wpAny_standAt ?_)
  refine wpAny_bind (wpAny_holding (setattr_ok I1 ea c n l r fun s2 I2 => ?_))
  exact wpAny_release ⟨σ, _, I2, q⟩
end
end Toy
namespace Toy
open PySem PySem.Spec PyProof.Rows L2
theorem hp_same {H H' : Hp} {a : Addr} {o : HO} (s : Same H H') (h : H a = some o) : H' a = some o := s _ _ h
theorem hp_new {H : Hp} {l a : Addr} {o u : HO} (n : H l = none) (h : H a = some o) : upd H l u a = some o := same_new n u _ _ h
theorem s1k : 1000 ≤ sizeLine := by decide
theorem lk1000 {n : Nat} (h : n ≤ 1000) : n ≤ sizeLine := Nat.le_trans h s1k
theorem lt1000 {n : Nat} (h : n < 1000) : n < sizeLine := Nat.lt_of_lt_of_le h s1k
theorem tyL {K : PySem.W.Frag} {H : Hp} {p : Addr} {xs : List V} (h : H p = some (.lst xs)) : tyV K "list" (.ref p) H := .inl ⟨rfl, xs, SqL.of h⟩
theorem sq_same {K : PySem.W.Frag} {H H' : Hp} {p : Addr} {xs : List V} (s : Same H H') (h : SqL K H p xs) : SqL K H' p xs := s.seq h
theorem newS {H H' : Hp} {l : Addr} {o : HO} (e : upd H l o = H') (n : H l = none) : Same H H' := e ▸ same_new n o
theorem newO {H H' : Hp} {l : Addr} {o : HO} (e : upd H l o = H') : H' l = some o := e ▸ upd_same
end Toy
namespace Toy
open PySem PySem.Spec PyProof.Rows L2
/-! ### what may raise -/
section
variable {X : Cx} {k : Nat} {ps : List Str} {sp : Sp} {x : Str} {p pos : Pos} {e : Expr} {es : List Expr} {t : TA} {W : WX}
theorem cx_no {outer : List Env} {H : Hp} {s : Shared} {e : Value} {s' : Shared} {P : Program} {w : World} (h : L2.CX P w outer H s E0 e s') : False := by
  obtain ⟨_, _, _, _, _, _, _, _, _, _, _, _, z⟩ := h
  exact z.elim
/-- a call that may raise; W takes what is raised -/
theorem pe_cW (D : Dx X.prog X.w X.K X.mg X.base k x ps sp) (hr : RoomG k X.A) (tk : Takes X W) (hg : Gl X x) (ha : PA X (e :: es) t) (hdb : (x == ("__debug__" : Str)) = false := by decide)
    (he : starEach (e :: es) X.env = (false, eval e X.env) :: starEach es X.env := by rfl) (hpl : (backTo pos (starEach es X.env)).any (·.1) = false := by rfl) : PE X (.Call (.Name x p) (e :: es) [] pos) (tCallS sp (WE W) t) := by
  obtain ⟨f, fd, F, hk, hm, hb⟩ := D.ex
  exact ⟨fun pins s σ H Q I h => wpAny_Call_Name_kw (ld_glob I hg hm (PySem.W.callWith_K (h₀ := X.base) I.ok.mod.kin hk (thn (ha.run pos pins s σ H _ I h) fun us s1 ⟨vs, H1, I1, r, q⟩ => ⟨I1.kIn, run_G F hr hb (fun e s' c => passAt tk σ pins H1 s1 e s' I1 c) I1 r q⟩) he hpl) hdb)⟩
theorem pe_cW0 (D : Dx X.prog X.w X.K X.mg X.base k x ps sp) (hr : RoomG k X.A) (tk : Takes X W) (hg : Gl X x) (hdb : (x == ("__debug__" : Str)) = false := by decide) : PE X (.Call (.Name x p) [] [] pos) (tCallS sp (WE W) tNil) := by
  obtain ⟨f, fd, F, hk, hm, hb⟩ := D.ex
  exact ⟨fun pins s σ H Q I h => wpAny_Call_Name_kw (ld_glob I hg hm (PySem.W.callWith_K0 I.kIn hk (run_G (us := []) F hr hb (fun e s' c => passAt tk σ pins H s e s' I c) I .nil h)) hdb)⟩
/-- .. that does not raise here -/
theorem pe_cXn (D : Dx X.prog X.w X.K X.mg X.base k x ps sp) (hr : RoomG k X.A) (hg : Gl X x) (ha : PA X (e :: es) t) (hdb : (x == ("__debug__" : Str)) = false := by decide)
    (he : starEach (e :: es) X.env = (false, eval e X.env) :: starEach es X.env := by rfl) (hpl : (backTo pos (starEach es X.env)).any (·.1) = false := by rfl) : PE X (.Call (.Name x p) (e :: es) [] pos) (tCall sp [] E0 t) := by
  obtain ⟨f, fd, F, hk, hm, hb⟩ := D.ex
  refine ⟨fun pins s σ H Q I h => wpAny_Call_Name_kw (ld_glob I hg hm (PySem.W.callWith_K (h₀ := X.base) I.ok.mod.kin hk (thn (ha.run pos pins s σ H _ I h) fun us s1 ⟨vs, H1, I1, r, q⟩ => ⟨I1.kIn, ?_⟩) he hpl) hdb)⟩
  have q' : sp vs H1 Q E0 := by
    have z : sp (vs ++ []) H1 Q E0 := q
    rw [List.append_nil] at z
    exact z
  exact run_G F hr hb (fun _ _ z => (cx_no z).elim) I1 r q'
/-- a def with defaults that may raise -/
structure DxD (P : Program) (w : World) (K : PySem.W.Frag) (mg : Str → Option Value) (base : Heap) (k : Nat) (x : Str) (ps : List Str) (dvs : List V) (sp : Sp) : Prop where
  ex : ∃ (f : Addr) (fd : FuncData) (ds : List Value), FnG P w K mg base (L2.CX P w) k f fd ps sp ∧ PySem.W.keepIn K (.ref f) = true ∧ mg x = some (.ref f) ∧ Binds K fd ps ds ∧ Vals dvs ds
theorem Dfd.okX {P : Program} {w : World} {K : PySem.W.Frag} {mg : Str → Option Value} {base : Heap} {x : Str} {st : Stmt} {dvs : List V} (D : Dfd K mg x st ps dvs)
    (h : ∀ f fd, FunA K x x st f fd → FnG P w K mg base (L2.CX P w) k f fd ps sp) : DxD P w K mg base k x ps dvs sp := by
  obtain ⟨f, fd, ds, F, kp, m, b, d⟩ := D.ex
  exact ⟨f, fd, ds, h f fd F, kp, m, b, d⟩
theorem pe_cXd {dvs : List V} (D : DxD X.prog X.w X.K X.mg X.base k x ps dvs sp) (hr : RoomG k X.A) (tk : Takes X W) (hg : Gl X x) (ha : PA X (e :: es) t) (hdb : (x == ("__debug__" : Str)) = false := by decide)
    (he : starEach (e :: es) X.env = (false, eval e X.env) :: starEach es X.env := by rfl) (hpl : (backTo pos (starEach es X.env)).any (·.1) = false := by rfl) : PE X (.Call (.Name x p) (e :: es) [] pos) (fun σ H Q => t σ H fun vs H1 => sp (vs ++ dvs) H1 Q (WE W σ)) := by
  obtain ⟨f, fd, ds, F, hk, hm, hb, hd⟩ := D.ex
  exact ⟨fun pins s σ H Q I h => wpAny_Call_Name_kw (ld_glob I hg hm (PySem.W.callWith_K (h₀ := X.base) I.ok.mod.kin hk (thn (ha.run pos pins s σ H _ I h) fun us s1 ⟨vs, H1, I1, r, q⟩ => ⟨I1.kIn, run_Gd F hr hb hd (fun e s' c => passAt tk σ pins H1 s1 e s' I1 c) I1 r q⟩) he hpl) hdb)⟩
theorem pe_cXdn {dvs : List V} (D : DxD X.prog X.w X.K X.mg X.base k x ps dvs sp) (hr : RoomG k X.A) (hg : Gl X x) (ha : PA X (e :: es) t) (hdb : (x == ("__debug__" : Str)) = false := by decide)
    (he : starEach (e :: es) X.env = (false, eval e X.env) :: starEach es X.env := by rfl) (hpl : (backTo pos (starEach es X.env)).any (·.1) = false := by rfl) : PE X (.Call (.Name x p) (e :: es) [] pos) (tCall sp dvs E0 t) := by
  obtain ⟨f, fd, ds, F, hk, hm, hb, hd⟩ := D.ex
  exact ⟨fun pins s σ H Q I h => wpAny_Call_Name_kw (ld_glob I hg hm (PySem.W.callWith_K (h₀ := X.base) I.ok.mod.kin hk (thn (ha.run pos pins s σ H _ I h) fun us s1 ⟨vs, H1, I1, r, q⟩ => ⟨I1.kIn, run_Gd F hr hb hd (fun _ _ z => (cx_no z).elim) I1 r q⟩) he hpl) hdb)⟩
/-- a method that may raise -/
structure DxM (P : Program) (w : World) (K : PySem.W.Frag) (mg : Str → Option Value) (base : Heap) (C : Addr) (k : Nat) (m : Str) (ps : List Str) (sp : Sp) : Prop where
  ex : ∃ f fd, FnG P w K mg base (L2.CX P w) k f fd ps sp ∧ Meth K C m f ∧ Binds K fd ps []
theorem DfM.okX {P : Program} {w : World} {K : PySem.W.Frag} {mg : Str → Option Value} {base : Heap} {C : Addr} {m q : Str} {st : Stmt} (D : DfM K C m q st ps)
    (h : ∀ f fd, Fun K m q st f fd → FnG P w K mg base (L2.CX P w) k f fd ps sp) : DxM P w K mg base C k m ps sp := by
  obtain ⟨f, fd, F, mt, b⟩ := D.ex
  exact ⟨f, fd, h f fd F, mt, b⟩
variable {m : Str} {apos : Pos} {o : Expr} {ta : TE} {C : Addr}
def tMethX (C : Addr) (m : Str) (sp : Sp) (W : WX) (ta : TE) (t : TA) : TE := fun σ H Q => ta σ H fun x H1 => ∃ a dx fs, x = .ref a ∧ H1 a = some (.ins C dx fs) ∧ fs.lookup m = none ∧ t σ H1 fun vs H2 => sp (x :: vs) H2 Q (WE W σ)
theorem pe_mX {pl : Sem Bool} (D : DxM X.prog X.w X.K X.mg X.base C k m ps sp) (c : Cls X.K C) (hr : RoomG k X.A) (tk : Takes X W) (he : PE X o ta) (ha : PA X (e :: es) t)
    (hst : starEach (e :: es) X.env = (false, eval e X.env) :: starEach es X.env := by rfl) (hpl : (backTo pos (starEach es X.env)).any (·.1) = false := by rfl)
    (ht : eval (.Call (.Attribute o m apos) (e :: es) [] pos) X.env = (do
      let ov ← eval o X.env
      standAt apos.atName
      let (f, first) ← holding [ov] (getMethod ov m pl)
      callWith pos f first (backTo pos (starEach (e :: es) X.env)) (backToKw pos (keywordEach [] X.env))) := by rfl) :
    PE X (.Call (.Attribute o m apos) (e :: es) [] pos) (tMethX C m sp W ta t) := by
  obtain ⟨f, fd, F, hm, hb⟩ := D.ex
  refine ⟨fun pins s σ H Q I h => ?_⟩
  refine PySem.W.methodCall_KW (pl := pl) (thn (he.run pins s σ H _ I h) fun u s1 ⟨x, H1, I1, rx, a, dx, fs, ex, ea, l, q⟩ => ?_) ht
  subst ex
  obtain rfl : u = Value.ref a := rx
  refine getmeth_ok I1 ea c hm l ?_
  refine PySem.W.callWith_K (first := [.ref a]) (h₀ := X.base) I.ok.mod.kin hm.kp (thn (ha.run pos pins s1 σ H1 _ I1 q) fun us s2 ⟨vs, H2, I2, r, q2⟩ => ⟨I2.kIn, ?_⟩) hst hpl
  exact run_G (us := .ref a :: us) (vs := .ref a :: vs) F hr hb (fun e s' c => passAt tk σ pins H2 s2 e s' I2 c) I2 (.cons rfl r) q2
theorem pe_mXn {pl : Sem Bool} (D : DxM X.prog X.w X.K X.mg X.base C k m ps sp) (c : Cls X.K C) (hr : RoomG k X.A) (he : PE X o ta) (ha : PA X (e :: es) t)
    (hst : starEach (e :: es) X.env = (false, eval e X.env) :: starEach es X.env := by rfl) (hpl : (backTo pos (starEach es X.env)).any (·.1) = false := by rfl)
    (ht : eval (.Call (.Attribute o m apos) (e :: es) [] pos) X.env = (do
      let ov ← eval o X.env
      standAt apos.atName
      let (f, first) ← holding [ov] (getMethod ov m pl)
      callWith pos f first (backTo pos (starEach (e :: es) X.env)) (backToKw pos (keywordEach [] X.env))) := by rfl) :
    PE X (.Call (.Attribute o m apos) (e :: es) [] pos) (tMeth C m sp [] E0 ta t) := by
  obtain ⟨f, fd, F, hm, hb⟩ := D.ex
  refine ⟨fun pins s σ H Q I h => ?_⟩
  refine PySem.W.methodCall_KW (pl := pl) (thn (he.run pins s σ H _ I h) fun u s1 ⟨x, H1, I1, rx, a, dx, fs, ex, ea, l, q⟩ => ?_) ht
  subst ex
  obtain rfl : u = Value.ref a := rx
  refine getmeth_ok I1 ea c hm l ?_
  refine PySem.W.callWith_K (first := [.ref a]) (h₀ := X.base) I.ok.mod.kin hm.kp (thn (ha.run pos pins s1 σ H1 _ I1 q) fun us s2 ⟨vs, H2, I2, r, q2⟩ => ⟨I2.kIn, ?_⟩) hst hpl
  have q' : sp (.ref a :: vs) H2 Q E0 := by
    have z : sp (.ref a :: (vs ++ [])) H2 Q E0 := q2
    rw [List.append_nil] at z
    exact z
  exact run_G (us := .ref a :: us) (vs := .ref a :: vs) F hr hb (fun _ _ z => (cx_no z).elim) I2 (.cons rfl r) q'
/-- a maker that may raise -/
structure DxI (P : Program) (w : World) (K : PySem.W.Frag) (mg : Str → Option Value) (base : Heap) (C : Addr) (k : Nat) (ps : List Str) (sp : Sp) : Prop where
  ex : ∃ f fd, FnG P w K mg base (L2.CX P w) k f fd ps sp ∧ Mk K C f ∧ Binds K fd ps []
theorem DfI.okX {P : Program} {w : World} {K : PySem.W.Frag} {mg : Str → Option Value} {base : Heap} {C : Addr} {q : Str} {st : Stmt} (D : DfI K C q st ps)
    (h : ∀ f fd, Fun K "__init__" q st f fd → FnG P w K mg base (L2.CX P w) k f fd ps sp) : DxI P w K mg base C k ps sp := by
  obtain ⟨f, fd, F, mt, b⟩ := D.ex
  exact ⟨f, fd, h f fd F, mt, b⟩
theorem run_mkX {pins : List (Addr × Obj)} {σ : L2.St} {H : Hp} {s : Shared} {Q : VK} {E : XK} {us : List Value} {vs : List V} {f : Addr} {fd : FuncData} (M : Mk X.K C f) (F : FnG X.prog X.w X.K X.mg X.base (L2.CX X.prog X.w) k f fd ps sp) (hr : RoomG (k + 1) X.A) (hb : Binds X.K fd ps [])
    (out : ∀ (H2 : Hp) (s2 : Shared) e s', Inv X pins σ H2 s2 → L2.CX X.prog X.w X.stack H2 s2 E e s' → X.xe e s') (I : Inv X pins σ H s) (r : Vals vs us)
    (h : ∀ x dx, H x = none → H dx = none → dx ≠ x → sp (.ref x :: vs) (upd (upd H dx (.own x)) x (.ins C dx [])) (fun v H2 => v = .non ∧ Q (.ref x) H2) E) :
    wpAny (model X.prog X.w) X.A (call (.ref C) us) (EP X pins σ Q) X.xe s := by
  have hq := h (s.heap.objs.size + 1) s.heap.objs.size (I.hok.fresh (Nat.le_succ _)) (I.hok.fresh (Nat.le_refl _)) (Nat.ne_of_lt (Nat.lt_succ_self _))
  have I2 := Inv.made (C := C) I
  have r2 : Vals (V.ref (s.heap.objs.size + 1) :: vs) (Value.ref (s.heap.objs.size + 1) :: us) := .cons rfl r
  have hl : (Value.ref (s.heap.objs.size + 1) :: us).length = ps.length := by
    rw [← r2.length]
    exact F.arity _ _ _ _ hq
  have b := hb { s with heap := _ } (Value.ref (s.heap.objs.size + 1) :: us) I2.kIn (by rw [List.append_nil]; exact hl)
  rw [List.append_nil] at b
  refine wpAny_call (make_map (f := f) I.kIn M.makes M.init (beq_iff_eq.mp M.fn) (codeAny_mono (F.go (hr.make C us []) (I2.env0.make C us []) b r2 hq) fun r s' hq' => ?_))
  cases r with
  | error e => exact out _ _ e s' I2 hq'
  | ok fl =>
    match fl, hq' with
    | .ret u, hq' =>
      obtain ⟨v, H', I3, rv, ev, q3⟩ := I2.after hq'
      subst ev
      exact ⟨rv, ⟨V.ref (s.heap.objs.size + 1), H', I3, rfl, q3⟩⟩
def tMakeX (C : Addr) (sp : Sp) (W : WX) (t : TA) : TE := fun σ H Q => t σ H fun vs H1 => ∀ x dx, H1 x = none → H1 dx = none → dx ≠ x → sp (.ref x :: vs) (upd (upd H1 dx (.own x)) x (.ins C dx [])) (fun v H2 => v = .non ∧ Q (.ref x) H2) (WE W σ)
theorem pe_mkX (D : DxI X.prog X.w X.K X.mg X.base C k ps sp) (hr : RoomG (k + 1) X.A) (tk : Takes X W) (hg : Gl X x) (hm : X.mg x = some (.ref C)) (ha : PA X (e :: es) t) (hdb : (x == ("__debug__" : Str)) = false := by decide)
    (he : starEach (e :: es) X.env = (false, eval e X.env) :: starEach es X.env := by rfl) (hpl : (backTo pos (starEach es X.env)).any (·.1) = false := by rfl) :
    PE X (.Call (.Name x p) (e :: es) [] pos) (tMakeX C sp W t) := by
  obtain ⟨f, fd, F, M, hb⟩ := D.ex
  refine ⟨fun pins s σ H Q I h => ?_⟩
  refine wpAny_Call_Name_kw (ld_glob I hg hm ?_ hdb)
  refine PySem.W.callWith_K (h₀ := X.base) I.ok.mod.kin M.kp (thn (ha.run pos pins s σ H _ I h) fun us s1 ⟨vs, H1, I1, r, q⟩ => ⟨I1.kIn, ?_⟩) he hpl
  exact run_mkX M F hr hb (fun H2 s2 e s' I2 c => passAt tk σ pins H2 s2 e s' I2 c) I1 r q
theorem pe_mkXn (D : DxI X.prog X.w X.K X.mg X.base C k ps sp) (hr : RoomG (k + 1) X.A) (hg : Gl X x) (hm : X.mg x = some (.ref C)) (ha : PA X (e :: es) t) (hdb : (x == ("__debug__" : Str)) = false := by decide)
    (he : starEach (e :: es) X.env = (false, eval e X.env) :: starEach es X.env := by rfl) (hpl : (backTo pos (starEach es X.env)).any (·.1) = false := by rfl) :
    PE X (.Call (.Name x p) (e :: es) [] pos) (tMake C sp [] E0 t) := by
  obtain ⟨f, fd, F, M, hb⟩ := D.ex
  refine ⟨fun pins s σ H Q I h => ?_⟩
  refine wpAny_Call_Name_kw (ld_glob I hg hm ?_ hdb)
  refine PySem.W.callWith_K (h₀ := X.base) I.ok.mod.kin M.kp (thn (ha.run pos pins s σ H _ I h) fun us s1 ⟨vs, H1, I1, r, q⟩ => ⟨I1.kIn, ?_⟩) he hpl
  exact run_mkX M F hr hb (fun _ _ _ _ _ c => (cx_no c).elim) I1 r fun x dx h1 h2 h3 => by
    have z := q x dx h1 h2 h3
    rw [List.append_nil] at z
    exact z
end
/-- bodies that may raise -/
theorem okGX {P : Program} {w : World} {K : PySem.W.Frag} {mg : Str → Option Value} {base : Heap} {x qual : Str} {st : Stmt} {f : Addr} {fd : FuncData} {N ps : List Str} {k : Nat} {sp : Sp} (F : Fun K x qual st f fd) (S : FnScope N ps (defScope st)) (ar : ∀ vs H Q E, sp vs H Q E → vs.length = ps.length)
    (body : ∀ (cdv : Value) (A : Around) (outer : List Env) (s : Shared) (H : Hp) (vs : List V) (Q : VK) (E : XK), RoomG k (A.deeper (envOfC qual (defScope st) s.heap.objs.size f cdv)) → sp vs H Q E →
      ∃ t, PSs (cxOf (L2.CX P w) P w K mg base N qual (defScope st) f cdv A outer s H E) (defBody st) t ∧ t { nx := fun _ H' => Q .non H', rt := Q } (start N vs) H) : FnG P w K mg base (L2.CX P w) (k + 1) f fd ps sp :=
  okGA (toA F) S ar body
/-- a class of errors -/
structure ExcF (K : PySem.W.Frag) (mg : Str → Option Value) (x : Str) : Prop where
  mg_ : mg x = some (.ref (cAt mg x))
  ex : PySem.W.excIn K (cAt mg x) [.type "ValueError", .type "Exception", .type "BaseException", .type "object"] "ValueError.__new__" = true
  kp : PySem.W.keepIn K (.ref (cAt mg x)) = true
  bs : PySem.W.subIn K (.ref (cAt mg x)) (.type "BaseException") = some true
  tp : PySem.W.typeIn K (.ref (cAt mg x)) = some (.type "type")
  is : PySem.W.isClsIn K (cAt mg x) = true
theorem ExcF.of {K : PySem.W.Frag} {mg : Str → Option Value} {x : Str} {C : Addr} (m : mg x = some (.ref C)) (h1 : PySem.W.excIn K C [.type "ValueError", .type "Exception", .type "BaseException", .type "object"] "ValueError.__new__" = true) (h2 : PySem.W.keepIn K (.ref C) = true)
    (h3 : PySem.W.subIn K (.ref C) (.type "BaseException") = some true) (h4 : PySem.W.typeIn K (.ref C) = some (.type "type")) (h5 : PySem.W.isClsIn K C = true) : ExcF K mg x := by
  have e := cAt_eq m
  exact ⟨by rw [e]; exact m, by rw [e]; exact h1, by rw [e]; exact h2, by rw [e]; exact h3, by rw [e]; exact h4, by rw [e]; exact h5⟩
/-- one class stands under another one, or does not -/
def SubF (K : PySem.W.Frag) (mg : Str → Option Value) (x y : Str) (b : Bool) : Prop := PySem.W.subIn K (.ref (cAt mg x)) (.ref (cAt mg y)) = some b
theorem SubF.of {K : PySem.W.Frag} {mg : Str → Option Value} {x y : Str} {C D : Addr} {b : Bool} (m : mg x = some (.ref C)) (m' : mg y = some (.ref D)) (h : PySem.W.subIn K (.ref C) (.ref D) = some b) : SubF K mg x y b := by
  unfold SubF
  rw [cAt_eq m, cAt_eq m']
  exact h
/-- what an except clause asks -/
theorem exm_of {K : PySem.W.Frag} {mg : Str → Option Value} {x y : Str} {b : Bool} (Y : ExcF K mg y) (h : SubF K mg x y b) : PySem.W.exmOne K (.ref (cAt mg x)) (.ref (cAt mg y)) = some b := by
  have e1 : (PySem.W.subIn K (.ref (cAt mg y)) (.type "BaseException") == some true) = true := by rw [Y.bs] <;> rfl
  have e2 : ((PySem.W.clsIn K (cAt mg y)).isSome && PySem.W.typeIn K (.ref (cAt mg y)) == some (.type "type")) = true := by
    have h2' : (PySem.W.clsIn K (cAt mg y)).isSome = true := Y.is
    rw [h2', Y.tp] <;> rfl
  show (if (PySem.W.subIn K (.ref (cAt mg y)) (.type "BaseException") == some true) = true then (if ((PySem.W.clsIn K (cAt mg y)).isSome && PySem.W.typeIn K (.ref (cAt mg y)) == some (.type "type")) = true then PySem.W.subIn K (.ref (cAt mg x)) (.ref (cAt mg y)) else none) else none) = some b
  rw [if_pos e1, if_pos e2]
  exact h
end Toy
namespace Toy
open PySem L2
def top (i : Nat) : Stmt := PySem.Challenge.pw_joinedasks_k85_whole_tokens_in_a_row.main.body.getD i (.Pass ⟨0, 0, 0, 0⟩)
abbrev s_is_whole : Stmt := top 7
theorem sc_is_whole : FnScope ["thing"] ["thing"] (defScope s_is_whole) := ⟨rfl, rfl, rfl, by decide +kernel, rfl, by decide +kernel, by decide +kernel⟩
abbrev s_is_within : Stmt := top 8
theorem sc_is_within : FnScope ["thing", "least", "most"] ["thing", "least", "most"] (defScope s_is_within) := ⟨rfl, rfl, rfl, by decide +kernel, rfl, by decide +kernel, by decide +kernel⟩
abbrev s_want_net : Stmt := top 9
theorem sc_want_net : FnScope ["k", "deepest"] ["k", "deepest"] (defScope s_want_net) := ⟨rfl, rfl, rfl, by decide +kernel, rfl, by decide +kernel, by decide +kernel⟩
abbrev s_merged : Stmt := top 12
theorem sc_merged : FnScope ["one", "other", "first", "upper", "second", "lower", "last", "row", "pair"] ["one", "other"] (defScope s_merged) := ⟨rfl, rfl, rfl, by decide +kernel, rfl, by decide +kernel, by decide +kernel⟩
abbrev s_counted_lines : Stmt := top 13
theorem sc_counted_lines : FnScope ["lines", "half", "first", "upper", "second", "lower", "last", "row"] ["lines"] (defScope s_counted_lines) := ⟨rfl, rfl, rfl, by decide +kernel, rfl, by decide +kernel, by decide +kernel⟩
abbrev s_counting_net : Stmt := top 14
theorem sc_counting_net : FnScope ["k"] ["k"] (defScope s_counting_net) := ⟨rfl, rfl, rfl, by decide +kernel, rfl, by decide +kernel, by decide +kernel⟩
abbrev s__law_cell : Stmt := top 20
theorem sc__law_cell : FnScope ["_law_script", "_law_k"] ["_law_script", "_law_k"] (defScope s__law_cell) := ⟨rfl, rfl, rfl, by decide +kernel, rfl, by decide +kernel, by decide +kernel⟩
abbrev s__law_pot : Stmt := top 21
theorem sc__law_pot : FnScope ["_law_script", "_law_k", "_law_cell_here", "_law_mixed"] ["_law_script", "_law_k"] (defScope s__law_pot) := ⟨rfl, rfl, rfl, by decide +kernel, rfl, by decide +kernel, by decide +kernel⟩
abbrev s__law_draw : Stmt := top 22
theorem sc__law_draw : FnScope ["_law_pot_here", "_law_many", "_law_digit"] ["_law_pot_here", "_law_many"] (defScope s__law_draw) := ⟨rfl, rfl, rfl, by decide +kernel, rfl, by decide +kernel, by decide +kernel⟩
abbrev s__law_gone : Stmt := top 23
theorem sc__law_gone : FnScope ["_law_counter", "_law_token", "_law_many", "_law_turn"] ["_law_counter", "_law_token", "_law_many"] (defScope s__law_gone) := ⟨rfl, rfl, rfl, by decide +kernel, rfl, by decide +kernel, by decide +kernel⟩
abbrev s__law_outs : Stmt := top 24
theorem sc__law_outs : FnScope ["_law_many_in", "_law_lines", "_law_place"] ["_law_many_in", "_law_lines"] (defScope s__law_outs) := ⟨rfl, rfl, rfl, by decide +kernel, rfl, by decide +kernel, by decide +kernel⟩
abbrev s__law_is_full : Stmt := top 25
theorem sc__law_is_full : FnScope ["_law_counter", "_law_line", "_law_found"] ["_law_counter", "_law_line"] (defScope s__law_is_full) := ⟨rfl, rfl, rfl, by decide +kernel, rfl, by decide +kernel, by decide +kernel⟩
abbrev s_law : Stmt := top 26
theorem sc_law : FnScope ["_law_script", "_law_k", "_law_pot_here", "_law_depth", "_law_lines", "_law_counter", "_law_many", "_law_number", "_law_line"] ["_law_script"] (defScope s_law) := ⟨rfl, rfl, rfl, by decide +kernel, rfl, by decide +kernel, by decide +kernel⟩
abbrev s_Counter____init__ : Stmt := inClass (top 18) 0
theorem sc_Counter____init__ : FnScope ["self", "k", "row"] ["self", "k"] (defScope s_Counter____init__) := ⟨rfl, rfl, rfl, by decide +kernel, rfl, by decide +kernel, by decide +kernel⟩
abbrev s_Counter__come : Stmt := inClass (top 18) 1
theorem sc_Counter__come : FnScope ["self", "line"] ["self", "line"] (defScope s_Counter__come) := ⟨rfl, rfl, rfl, by decide +kernel, rfl, by decide +kernel, by decide +kernel⟩
abbrev s_Counter__go : Stmt := inClass (top 18) 3
theorem sc_Counter__go : FnScope ["self", "token", "line", "begin", "number", "pair"] ["self", "token"] (defScope s_Counter__go) := ⟨rfl, rfl, rfl, by decide +kernel, rfl, by decide +kernel, by decide +kernel⟩
abbrev s_Counter__inside : Stmt := inClass (top 18) 5
theorem sc_Counter__inside : FnScope ["self"] ["self"] (defScope s_Counter__inside) := ⟨rfl, rfl, rfl, by decide +kernel, rfl, by decide +kernel, by decide +kernel⟩
abbrev s_Counter__outs : Stmt := inClass (top 18) 6
theorem sc_Counter__outs : FnScope ["self"] ["self"] (defScope s_Counter__outs) := ⟨rfl, rfl, rfl, by decide +kernel, rfl, by decide +kernel, by decide +kernel⟩
abbrev s_Counter__told : Stmt := inClass (top 18) 7
theorem sc_Counter__told : FnScope ["self", "found", "number"] ["self"] (defScope s_Counter__told) := ⟨rfl, rfl, rfl, by decide +kernel, rfl, by decide +kernel, by decide +kernel⟩
abbrev s_Counter__next_toggle : Stmt := inClass (top 18) 2
theorem sc_Counter__next_toggle : FnScope ["self", "line", "begin"] ["self", "line", "begin"] (defScope s_Counter__next_toggle) := ⟨rfl, rfl, rfl, by decide +kernel, rfl, by decide +kernel, by decide +kernel⟩
abbrev s_Counter__come_out : Stmt := inClass (top 18) 4
theorem sc_Counter__come_out : FnScope ["self", "token", "line", "place", "found"] ["self", "token", "line"] (defScope s_Counter__come_out) := ⟨rfl, rfl, rfl, by decide +kernel, rfl, by decide +kernel, by decide +kernel⟩
structure Bl (K : PySem.W.Frag) (mg : Str → Option Value) : Prop where
  all_ : mg "all" = none
  bool_ : mg "bool" = none
  divmod_ : mg "divmod" = none
  int_ : mg "int" = none
  isinstance_ : mg "isinstance" = none
  len_ : mg "len" = none
  list_ : mg "list" = none
  max_ : mg "max" = none
  min_ : mg "min" = none
  range_ : mg "range" = none
  sorted_ : mg "sorted" = none
  sum_ : mg "sum" = none
  tuple_ : mg "tuple" = none
  zip_ : mg "zip" = none
  DEEPEST_ : ∃ t, mg "DEEPEST" = some (.int (3) t)
  MOST_TOKENS_ : ∃ t, mg "MOST_TOKENS" = some (.int (40) t)
  OUT_ : ∃ t, mg "OUT" = some (.int (-1) t)
  TooMany_ : ExcF K mg "TooMany"
  TooMany_TooMany_ : SubF K mg "TooMany" "TooMany" true
  Counter_ : ClsF K mg "Counter" ["at", "many_out", "pairs", "row", "ups"]

end Toy
/-! ### enumerate of a tuple -/
namespace PySem
open Sem (wp)
open AutoSeq1 (wpAny_loadPart')
theorem meets_enumerate_newTu (l : Addr) (items : Array Value) (n : Nat) (dct : Option Addr) (sl : Array (Option Value)) :
    Meets (Builtin.«enumerate.__new__» ⟨[.type "enumerate", .ref l], []⟩) (fun _ R s => s.heap.get? l = some { cls := .type "tuple", dict := dct, data := .seq items n, slots := sl } ∧
      R (.ok (.ret (.ref (s.heap.push { cls := .type "tuple_iterator", data := .fields #[.ref l, .int 0 0] }).objs.size)))
        { s with heap := (s.heap.push { cls := .type "tuple_iterator", data := .fields #[.ref l, .int 0 0] }).push { cls := .type "enumerate", data := .fields #[.none, .bool false, .ref s.heap.objs.size, rawInt 0, .none, .none] } }) :=
  .of_wp fun prog w A R s h => by
    obtain ⟨hp, g, d, tk, os⟩ := s; obtain ⟨hl, h⟩ := h
    have hsub := sub_enumerate
    have hL : Heap.IsTuple (Shared.heap ⟨hp, g, d, tk, os⟩) l items := ⟨_, hl, rfl, n, rfl⟩
    wp_walk using wpAny_loadPart' hl
    refine wpAny_stack_any fun st => wpAny_pure ?_
    split
    · rename_i c _ _ _ _ _
      cases (c == Value.type "enumerate")
      · wp_walk using wpAny_loadPart' hl, wpAny_pyIter_tuple hL
        exact ⟨_, rfl, h⟩
      · wp_walk using wpAny_loadPart' hl, wpAny_pyIter_tuple hL
        exact ⟨_, rfl, h⟩
    · wp_walk using wpAny_loadPart' hl, wpAny_pyIter_tuple hL
      exact ⟨_, rfl, h⟩
theorem call_enumerate_tup {prog : Program} {w : World} {A : Around} {E : Value → Shared → Prop} {s : Shared} {l : Addr} {items : Array Value} {Q : Value → Shared → Prop} (hL : s.heap.IsTuple l items)
    (h : ∀ h', IsEnum h' (s.heap.objs.size + 1) s.heap.objs.size 0 .none → h'.IsTupleIter s.heap.objs.size l 0 → h'.objs.size = s.heap.objs.size + 2 →
      (∀ b o, s.heap.get? b = some o → h'.get? b = some o) → Q (.ref (s.heap.objs.size + 1)) { s with heap := h' }) :
    wpAny (model prog w) A (call (.type "enumerate") [.ref l]) Q E s := by
  obtain ⟨⟨c, dct, dt, sl⟩, hl, hc, n, hd⟩ := hL
  replace hc : c = .type "tuple" := hc
  replace hd : dt = .seq items n := hd
  subst hc hd
  refine callType_new F.called_enumerate (by decide) (F.typeCall_enumerate_1 _) (F.newCall_enumerate_1 _) (fun obj => F.args_object_init_2 obj _) F.entry_enumerate_new
    (meets_enumerate_newTu l items n dct sl) ⟨hl, ?_⟩
  have hz : (s.heap.push { cls := .type "tuple_iterator", data := .fields #[.ref l, .int 0 0] }).objs.size = s.heap.objs.size + 1 := Heap.size_push ..
  show _ ∧ _
  rw [hz]
  have he : IsEnum ((s.heap.push { cls := .type "tuple_iterator", data := .fields #[.ref l, .int 0 0] }).push
      { cls := .type "enumerate", data := .fields #[.none, .bool false, .ref s.heap.objs.size, rawInt 0, .none, .none] }) (s.heap.objs.size + 1) s.heap.objs.size 0 .none := by
    have := Heap.get?_push_size (s.heap.push { cls := .type "tuple_iterator", data := .fields #[.ref l, .int 0 0] })
      (o := { cls := .type "enumerate", data := .fields #[.none, .bool false, .ref s.heap.objs.size, rawInt 0, .none, .none] }) rfl
    rw [hz] at this; exact this
  refine ⟨⟨_, he, rfl⟩, h _ he ⟨_, Heap.get?_push_of_some _ (Heap.get?_push_size _ rfl), rfl, rfl⟩ (by rw [Heap.size_push, hz]) fun b o x => Heap.get?_push_of_some _ (Heap.get?_push_of_some _ x)⟩
end PySem
namespace Toy
open PySem PySem.Spec PyProof.Rows L2
theorem tup_is {h : Heap} {a : Addr} {its : Array Value} (p : IsTup h a its) : h.IsTuple a its := p
/-- the tuple at a as it stands at each turn, each item in a new pair -/
def IteT (K : PySem.W.Frag) (a : Addr) : It :=
  ⟨fun i H => ∃ (xs : List V) (x : V), SqT K H a xs ∧ xs[i]? = some x, fun i H v H' => ∃ T x, v = .ref T ∧ H T = none ∧ H' = upd H T (.tup [.int (i : Nat), x]) ∧ ∀ xs, SqT K H a xs → xs[i]? = some x, fun i H => ∃ xs : List V, SqT K H a xs ∧ xs.length = i⟩
theorem turn_enumTu {P : Program} {w : World} {K : PySem.W.Frag} {elts : List Expr} {kk : Nat} {tpos : Pos} (a e it : Addr) (hai : a ≠ it) :
    Turn P w K (.Tuple elts kk tpos) (IteT K a) [e, it] e (fun i h => (∃ old, IsEnum h e it ((i : Nat) : Int) old) ∧ h.IsTupleIter it a i ∧ e ≠ it ∧ e ≠ a) where
  mem := by simp
  obj := fun i h st b hb => by
    obtain ⟨⟨old, he⟩, ⟨o, ho, hc, hd⟩, _⟩ := st
    have e' : b = e ∨ b = it := by simpa using hb
    rcases e' with z | z
    · rw [z]; exact ⟨_, he, fun v q => nomatch q⟩
    · rw [z]; exact ⟨o, ho, fun v q => by rw [hd] at q; cases q⟩
  keep := fun i h h' st k => let ⟨⟨old, he⟩, hi, hne⟩ := st; ⟨⟨old, k e (by simp) _ he⟩, hi.at fun o q => k it (by simp) o q, hne⟩
  item := by
    intro X hP hw hK hc i pins s σ H E I hf st hg
    subst hP hw hK
    obtain ⟨⟨old, he⟩, hit, hne, hea⟩ := st
    obtain ⟨xs, x, hq, hx⟩ := hg
    obtain ⟨its, rv, p, hz⟩ := I.tuple hq
    obtain ⟨u, hu, ru⟩ := rv.get hx
    have hel : e < s.heap.objs.size := Heap.lt_size he
    have hil : it < s.heap.objs.size := by obtain ⟨_, q, _⟩ := hit; exact Heap.lt_size q
    refine wpAny_pyNext_enum_itemD (Draws.tuple (show X.A.in1.handled = none from I.ok.hd hc) it a hai its.toArray) he ⟨hit, tup_is p⟩ (by have h1 := rv.length; have h2 := (List.getElem?_eq_some_iff.mp hx).1; rw [List.size_toArray]; omega) hne (by simp [hne, hea]) fun x' h' tk hP ho hst' hT hsz hk => ?_
    obtain ⟨hit', ht'⟩ := hst'
    have ex : x' = u := by
      have h1 : its[i]? = some x' := by simpa using hP
      rw [hu] at h1
      exact (Option.some.inj h1).symm
    subst ex
    refine ⟨_, rfl, wpAny_letOwnedTupleGo_enum (s := { s with heap := h', toks := tk + 1 }) ho fun h'' he' sb => ?_⟩
    have hT2 : h''.get? s.heap.objs.size = some { cls := .type "tuple", data := .seq #[.int i tk, x'] } := (sb.2 _ (Nat.ne_of_gt hel)).trans hT
    have new : ObjOk X.prog X.w (upd H s.heap.objs.size (.tup [.int (i : Nat), x])) h'' s.heap.objs.size (.tup [.int (i : Nat), x]) :=
      ⟨by show 2 ≤ sizeLine; decide, [.int i tk, x'], .cons ⟨_, rfl⟩ (.cons ru .nil), ⟨_, hT2, rfl, _, rfl⟩⟩
    have I1 : Inv X pins σ (upd H s.heap.objs.size (.tup [.int (i : Nat), x])) { s with heap := h'', toks := tk + 1 } :=
      I.turnedNew (ch := [e, it]) (fun b ob hb q => (sb.2 b (fun z => hb (by simp [z]))).trans (hk b ob (fun z => hb (by simp [z])) (fun z => hb (by simp [z])) q)) hf (Nat.le_refl _) new
    refine ⟨.ref s.heap.objs.size, _, I1, rfl, ⟨_, x, rfl, I.hok.fresh (Nat.le_refl _), rfl, fun ys hy => by rw [I.tuple_inj hy hq]; exact hx⟩, ⟨⟨x', ?_⟩, hit'.at fun o q => (sb.2 it (Ne.symm hne)).trans q, hne, hea⟩, fun b hb => ?_⟩
    · have e1 : ((i + 1 : Nat) : Int) = (i : Int) + 1 := by omega
      rw [e1]; exact he'
    · have hb' : b < s.heap.objs.size := by
        have e' : b = e ∨ b = it := by simpa using hb
        rcases e' with z | z
        · rw [z]; exact hel
        · rw [z]; exact hil
      rw [upd_ne (Nat.ne_of_lt hb')]
      exact (hf b hb).1
  done := by
    intro X hP hw hK hc i pins s σ H E I hf st hg
    subst hP hw hK
    obtain ⟨⟨old, he⟩, hit, hne, hea⟩ := st
    obtain ⟨xs, hq, hx⟩ := hg
    obtain ⟨its, rv, p, hz⟩ := I.tuple hq
    obtain ⟨f0, f1, f2, f3, f4, f5⟩ := hf it (by simp)
    have hl := rv.length
    have e2 : i = its.toArray.size := by rw [List.size_toArray]; omega
    rw [e2] at hit he
    exact wpAny_pyNext_enum_endD (Draws.tuple (show X.A.in1.handled = none from I.ok.hd hc) it a hai its.toArray) he ⟨hit, tup_is p⟩ fun h' eb => ⟨rfl, I.turned (t' := s.toks) (fun b o hb q => eb b o hb q) f0 f1 f3 f4 f5⟩
  self := fun A i s Q E st h => let ⟨⟨_, he⟩, _⟩ := st; wpAny_pyIter_enum he h
def iEnumT (K : PySem.W.Frag) (ta : TA) : TI := fun σ H R => ta σ H fun vs H1 => ∃ a xs, vs = [.ref a] ∧ SqT K H1 a xs ∧ R (IteT K a) H1
theorem pi_enumT {X : Cx} {e : Expr} {ta : TA} {p pos tpos : Pos} {elts : List Expr} {kk : Nat} (hg : Gl X "enumerate") (hm : X.mg "enumerate" = none) (ha : PA X [e] ta) (hs : starEach [e] X.env = [(false, eval e X.env)] := by rfl) :
    PI X (.Tuple elts kk tpos) (.Call (.Name "enumerate" p) [e] [] pos) (iEnumT X.K ta) := by
  refine ⟨fun pins s σ H R I h => ?_⟩
  refine Call_ (ld_blt I hg hm boot_enumerate (PyProof.Rows.callWith_type1 (thn (ha.run pos pins s σ H _ I h) fun us s1 ⟨vs, H1, I1, r1, q1⟩ => ?_) hs rfl))
  obtain ⟨a, xs, ex, hq, q⟩ := q1
  subst ex
  cases r1 with
  | cons r rr =>
    cases rr
    cases r
    obtain ⟨its, rv, p', hz⟩ := I1.tuple hq
    have hal : a < s1.heap.objs.size := by obtain ⟨o, ho, _⟩ := p'; exact Heap.lt_size ho
    refine call_enumerate_tup (tup_is p') fun h' he hit hsz hk => wpAny_pyIter_enum he ?_
    have I2 : Inv X pins σ H1 { s1 with heap := h' } := I1.kept (t' := s1.toks) hk
    refine ⟨s1.heap.objs.size + 1, [s1.heap.objs.size + 1, s1.heap.objs.size], _, _, H1, rfl, I2, turn_enumTu a (s1.heap.objs.size + 1) s1.heap.objs.size (Nat.ne_of_lt hal), ⟨⟨.none, he⟩, hit, Nat.succ_ne_self _, Nat.ne_of_gt (Nat.lt_succ_of_lt hal)⟩, fun b hb => ?_, q⟩
    have e' : b = s1.heap.objs.size + 1 ∨ b = s1.heap.objs.size := by simpa using hb
    have hle : s1.heap.objs.size ≤ b := by
      rcases e' with z | z
      · rw [z]; exact Nat.le_add_right _ _
      · rw [z]; exact Nat.le_refl _
    exact I1.fpOk hle (I1.hok.fresh hle)
theorem for_enumT {K : PySem.W.Frag} {a : Addr} {xs : List V} {g : TG} {tb : TS} {D : Ends} {σ : L2.St} {H : Hp} (Pv : Nat → L2.St → Hp → Prop) (h0 : Pv 0 σ H) (hl : ∀ i σ H, i ≤ xs.length → Pv i σ H → SqT K H a xs)
    (hs : ∀ (i : Nat) x (T : Addr) σ H, xs[i]? = some x → Pv i σ H → H T = none → g (.ref T) σ (upd H T (.tup [.int i, x])) fun σ2 H2 => tb { D with nx := Pv (i + 1), ct := Pv (i + 1), bk := D.nx } σ2 H2) (hd : ∀ σ H, Pv xs.length σ H → D.nx σ H) :
    ∃ W : Nat → Nat → L2.St → Hp → Prop, (∃ m, W 0 m σ H) ∧ ∀ i m σ H, W i m σ H →
      ((IteT K a).stop i H ∧ D.nx σ H) ∨ ((IteT K a).go i H ∧ ∃ N : L2.St → Hp → Prop, (∀ σ' H', N σ' H' → ∃ m', m' < m ∧ W (i + 1) m' σ' H') ∧ ∀ x H', (IteT K a).yld i H x H' → g x σ H' fun σ2 H2 => tb { D with nx := N, ct := N, bk := D.nx } σ2 H2) := by
  refine ⟨fun i m σ H => m = xs.length - i ∧ i ≤ xs.length ∧ Pv i σ H, ⟨xs.length, by simp, Nat.zero_le _, h0⟩, ?_⟩
  rintro i m σ H ⟨rfl, hi, p⟩
  have q := hl i σ H hi p
  by_cases hlt : i < xs.length
  · refine .inr ⟨⟨xs, xs[i], q, List.getElem?_eq_getElem hlt⟩, Pv (i + 1), fun σ' H' p' => ⟨xs.length - (i + 1), by omega, rfl, hlt, p'⟩, fun x H' y => ?_⟩
    obtain ⟨T, z, rfl, hT, rfl, hz⟩ := y
    exact hs i z T σ H (hz xs q) p hT
  · have e : i = xs.length := by omega
    subst e
    exact .inl ⟨⟨xs, q, rfl⟩, hd σ H p⟩
/-! ### loops over any iterable: the forms one uses -/
theorem lc_it {I : It} {n : Nat} {g : TG} {tt : TT} {te : TE} {vs : List Nat} {σ : L2.St} {H1 : Hp} {D : Addr} {Qd : Hp → Prop} (Pv : Nat → Hp → Prop) (h0 : Pv 0 (upd H1 D (.lst [])))
    (hgo : ∀ i H, i < n → Pv i H → I.go i H) (hst : ∀ H, Pv n H → I.stop n H)
    (hs : ∀ i x H H', i < n → Pv i H → I.yld i H x H' → g x (wipe σ vs) H' fun σ2 H2 => wipe σ2 vs = wipe σ vs ∧ tt σ2 H2 fun b H3 =>
      if b = true then te σ2 H3 fun y H4 => ∃ acc, H4 D = some (.lst acc) ∧ acc.length < sizeLine ∧ Pv (i + 1) (upd H4 D (.lst (acc ++ [y]))) else Pv (i + 1) H3) (hd : ∀ H, Pv n H → Qd H) :
    ∃ W : Nat → Nat → Hp → Prop, (∃ m, W 0 m (upd H1 D (.lst []))) ∧ ∀ i m H, W i m H →
      (I.stop i H ∧ Qd H) ∨ (I.go i H ∧ ∃ Nx : Hp → Prop, (∀ H', Nx H' → ∃ m', m' < m ∧ W (i + 1) m' H') ∧ ∀ x H', I.yld i H x H' → g x (wipe σ vs) H' fun σ2 H2 => wipe σ2 vs = wipe σ vs ∧ tt σ2 H2 fun b H3 =>
        if b = true then te σ2 H3 fun y H4 => ∃ acc, H4 D = some (.lst acc) ∧ acc.length < sizeLine ∧ Nx (upd H4 D (.lst (acc ++ [y]))) else Nx H3) := by
  refine ⟨fun i m H => m = n - i ∧ i ≤ n ∧ Pv i H, ⟨n, by simp, Nat.zero_le _, h0⟩, ?_⟩
  rintro i m H ⟨rfl, hi, p⟩
  by_cases hlt : i < n
  · exact .inr ⟨hgo i H hlt p, Pv (i + 1), fun H' p' => ⟨n - (i + 1), by omega, rfl, hlt, p'⟩, fun x H' y => hs i x H H' hlt p y⟩
  · have e : i = n := by omega
    subst e
    exact .inl ⟨hst H p, hd H p⟩
theorem for_it {I : It} {n : Nat} {g : TG} {tb : TS} {D : Ends} {σ : L2.St} {H : Hp} (Pv : Nat → L2.St → Hp → Prop) (h0 : Pv 0 σ H)
    (hgo : ∀ i σ H, i < n → Pv i σ H → I.go i H) (hst : ∀ σ H, Pv n σ H → I.stop n H)
    (hs : ∀ i x σ H H', i < n → Pv i σ H → I.yld i H x H' → g x σ H' fun σ2 H2 => tb { D with nx := Pv (i + 1), ct := Pv (i + 1), bk := D.nx } σ2 H2) (hd : ∀ σ H, Pv n σ H → D.nx σ H) :
    ∃ W : Nat → Nat → L2.St → Hp → Prop, (∃ m, W 0 m σ H) ∧ ∀ i m σ H, W i m σ H →
      (I.stop i H ∧ D.nx σ H) ∨ (I.go i H ∧ ∃ N : L2.St → Hp → Prop, (∀ σ' H', N σ' H' → ∃ m', m' < m ∧ W (i + 1) m' σ' H') ∧ ∀ x H', I.yld i H x H' → g x σ H' fun σ2 H2 => tb { D with nx := N, ct := N, bk := D.nx } σ2 H2) := by
  refine ⟨fun i m σ H => m = n - i ∧ i ≤ n ∧ Pv i σ H, ⟨n, by simp, Nat.zero_le _, h0⟩, ?_⟩
  rintro i m σ H ⟨rfl, hi, p⟩
  by_cases hlt : i < n
  · exact .inr ⟨hgo i σ H hlt p, Pv (i + 1), fun σ' H' p' => ⟨n - (i + 1), by omega, rfl, hlt, p'⟩, fun x H' y => hs i x σ H H' hlt p y⟩
  · have e : i = n := by omega
    subst e
    exact .inl ⟨hst σ H p, hd σ H p⟩
/-- [.. for i, x in enumerate(xs)] -/
theorem lc_enum {K : PySem.W.Frag} {a : Addr} {xs : List V} {g : TG} {tt : TT} {te : TE} {vs : List Nat} {σ : L2.St} {H1 : Hp} {D : Addr} {Qd : Hp → Prop} (Pv : Nat → Hp → Prop) (h0 : Pv 0 (upd H1 D (.lst []))) (hl : ∀ i H, i ≤ xs.length → Pv i H → SqL K H a xs)
    (hs : ∀ (i : Nat) x (T : Addr) H, xs[i]? = some x → Pv i H → H T = none → g (.ref T) (wipe σ vs) (upd H T (.tup [.int i, x])) fun σ2 H2 => wipe σ2 vs = wipe σ vs ∧ tt σ2 H2 fun b H3 =>
      if b = true then te σ2 H3 fun y H4 => ∃ acc, H4 D = some (.lst acc) ∧ acc.length < sizeLine ∧ Pv (i + 1) (upd H4 D (.lst (acc ++ [y]))) else Pv (i + 1) H3) (hd : ∀ H, Pv xs.length H → Qd H) :
    ∃ W : Nat → Nat → Hp → Prop, (∃ m, W 0 m (upd H1 D (.lst []))) ∧ ∀ i m H, W i m H →
      ((Ite K a).stop i H ∧ Qd H) ∨ ((Ite K a).go i H ∧ ∃ Nx : Hp → Prop, (∀ H', Nx H' → ∃ m', m' < m ∧ W (i + 1) m' H') ∧ ∀ x H', (Ite K a).yld i H x H' → g x (wipe σ vs) H' fun σ2 H2 => wipe σ2 vs = wipe σ vs ∧ tt σ2 H2 fun b H3 =>
        if b = true then te σ2 H3 fun y H4 => ∃ acc, H4 D = some (.lst acc) ∧ acc.length < sizeLine ∧ Nx (upd H4 D (.lst (acc ++ [y]))) else Nx H3) := by
  refine lc_it (I := Ite K a) (n := xs.length) Pv h0 (fun i H hi p => ⟨xs, xs[i], hl i H (Nat.le_of_lt hi) p, List.getElem?_eq_getElem hi⟩) (fun H p => ⟨xs, hl _ H (Nat.le_refl _) p, Nat.le_refl _⟩) ?_ hd
  rintro i x H H' hi p ⟨T, z, rfl, hT, rfl, hz⟩
  exact hs i z T H (hz xs (hl i H (Nat.le_of_lt hi) p)) p hT
theorem for_enum' {K : PySem.W.Frag} {a : Addr} {xs : List V} {g : TG} {tb : TS} {D : Ends} {σ : L2.St} {H : Hp} (Pv : Nat → L2.St → Hp → Prop) (h0 : Pv 0 σ H) (hl : ∀ i σ H, i ≤ xs.length → Pv i σ H → SqL K H a xs)
    (hs : ∀ (i : Nat) x (T : Addr) σ H, xs[i]? = some x → Pv i σ H → H T = none → g (.ref T) σ (upd H T (.tup [.int i, x])) fun σ2 H2 => tb { D with nx := Pv (i + 1), ct := Pv (i + 1), bk := D.nx } σ2 H2) (hd : ∀ σ H, Pv xs.length σ H → D.nx σ H) :
    ∃ W : Nat → Nat → L2.St → Hp → Prop, (∃ m, W 0 m σ H) ∧ ∀ i m σ H, W i m σ H →
      ((Ite K a).stop i H ∧ D.nx σ H) ∨ ((Ite K a).go i H ∧ ∃ N : L2.St → Hp → Prop, (∀ σ' H', N σ' H' → ∃ m', m' < m ∧ W (i + 1) m' σ' H') ∧ ∀ x H', (Ite K a).yld i H x H' → g x σ H' fun σ2 H2 => tb { D with nx := N, ct := N, bk := D.nx } σ2 H2) := by
  refine for_it (I := Ite K a) (n := xs.length) Pv h0 (fun i σ H hi p => ⟨xs, xs[i], hl i σ H (Nat.le_of_lt hi) p, List.getElem?_eq_getElem hi⟩) (fun σ H p => ⟨xs, hl _ σ H (Nat.le_refl _) p, Nat.le_refl _⟩) ?_ hd
  rintro i x σ H H' hi p ⟨T, z, rfl, hT, rfl, hz⟩
  exact hs i z T σ H (hz xs (hl i σ H (Nat.le_of_lt hi) p)) p hT
/-- xs[i] of a list, as a value -/
theorem get_listI {X : Cx} : PGet X (rIxL X.K) := by
  intro pins s σ H o i ov iv Q I ro ri h
  obtain ⟨p, xs, k, z, rfl, rfl, hq, he, q⟩ := h
  cases ro
  obtain ⟨t, rfl⟩ := ri
  obtain ⟨its, r, pl, hz⟩ := I.list hq
  obtain ⟨j, h1, h2, h3, h4, h5⟩ := atI_get he
  obtain ⟨w, ew, rw'⟩ := r.get h2
  have hl := r.length
  have hn := line63
  have fin : EP X pins σ Q w s := ⟨z, H, I, rw', q⟩
  by_cases h0 : 0 ≤ k
  · have hj : k.toNat = j := by
      rw [seqIndex_of h0 h5] at h1
      exact Option.some.inj h1
    exact wpAny_getItem_list pl.isList h0 (by omega) (by rw [hj]; simpa using ew) fin
  · have hj : (k + (its.toArray.size : Int)).toNat = j := by
      rw [seqIndex_neg (by omega) h4] at h1
      rw [List.size_toArray, ← hl]
      exact Option.some.inj h1
    exact wpAny_getItem_list_neg pl.isList (by omega) (by rw [List.size_toArray] <;> omega) (by omega) (by rw [hj]; simpa using ew) fin
end Toy
/-! ### list(zip(xs, ys)), two lists -/
namespace PySem
theorem zip_no_len' : typeLookup (.type "zip") "__len__" = pure none := by rw [typeLookup_type, builtinLookup_eq_fast]; kernel_rfl
theorem zip_no_hint' : typeLookup (.type "zip") "__length_hint__" = pure none := by rw [typeLookup_type, builtinLookup_eq_fast]; kernel_rfl
end PySem
namespace Toy
open PySem PySem.Spec PyProof.Rows L2
open Sem (wp)
def zst (z TI TO i1 i2 l1 l2 S : Addr) (i : Nat) (h : Heap) : Prop := IsPair h TI (.ref i1) (.ref i2) ∧ h.IsListIter i1 l1 i ∧ h.IsListIter i2 l2 i ∧ (∃ oO, h.get? TO = some oO) ∧
  ((IsZip h z TI TO .none ∧ ∃ a b, IsPair h TO a b) ∨ ∃ T f oT, IsZipHeld h z TI TO T f ∧ h.get? T = some oT ∧ T ≠ z ∧ T ≠ i1 ∧ T ≠ i2 ∧ T ≠ S)
theorem zst.at {z TI TO i1 i2 l1 l2 S : Addr} {i : Nat} {h h' : Heap} (n : S ≠ z ∧ S ≠ TI ∧ S ≠ TO ∧ S ≠ i1 ∧ S ≠ i2) (k : ∀ b o, b ≠ S → h.get? b = some o → h'.get? b = some o) (st : zst z TI TO i1 i2 l1 l2 S i h) : zst z TI TO i1 i2 l1 l2 S i h' := by
  obtain ⟨nz, nTI, nTO, n1, n2⟩ := n
  obtain ⟨hTI, h1, h2, ⟨oO, hO⟩, hz⟩ := st
  refine ⟨k _ _ (Ne.symm nTI) hTI, h1.at fun o e => k _ o (Ne.symm n1) e, h2.at fun o e => k _ o (Ne.symm n2) e, ⟨oO, k _ _ (Ne.symm nTO) hO⟩, ?_⟩
  rcases hz with ⟨hz, a, b, hTO⟩ | ⟨T, f, oT, hz, hT, r1, r2, r3, r4⟩
  · exact .inl ⟨k _ _ (Ne.symm nz) hz, a, b, k _ _ (Ne.symm nTO) hTO⟩
  · exact .inr ⟨T, f, oT, k _ _ (Ne.symm nz) hz, k _ _ r4 hT, r1, r2, r3, r4⟩
def PairsAt (H : Hp) (ts : List Addr) (xs ys : List V) : Prop := ∀ (j : Nat) (t : Addr) (x y : V), ts[j]? = some t → xs[j]? = some x → ys[j]? = some y → H t = some (.tup [x, y])
theorem ext_zip {X : Cx} {pins : List (Addr × Obj)} {σ : L2.St} {z TI TO i1 i2 l1 l2 S : Addr} {A : Around} {R : Result → Shared → Prop} (hA : A.in1.handled = none) (D : ZipApart z TI TO i1 i2 l1 l2) {xs ys : List V} (hlen : xs.length = ys.length) (h1000 : xs.length ≤ 1000)
    (nS : S ≠ z ∧ S ≠ TI ∧ S ≠ TO ∧ S ≠ i1 ∧ S ≠ i2) (res : Value) (H0 : Hp) (hq : ∀ H', But S H0 H' → SqL X.K H' l1 xs ∧ SqL X.K H' l2 ys) :
    ∀ (k i : Nat) (s : Shared) (H : Hp) (ts : List Addr), xs.length - i = k → i ≤ xs.length → Inv X pins σ H s → (∀ b ∈ [z, TO, i1, i2], FpOk X pins H b) → zst z TI TO i1 i2 l1 l2 S i s.heap → But S H0 H →
    H S = some (.lst (ts.map V.ref)) → ts.length = i → PairsAt H ts xs ys →
    (∀ s' H' ts', Inv X pins σ H' s' → But S H0 H' → H' S = some (.lst (ts'.map V.ref)) → ts'.length = xs.length → PairsAt H' ts' xs ys → R (.ok (.ret res)) s') →
    codeAny (model X.prog X.w) A (.builtin "list.extend.loop" ⟨[.ref S, .ref z, res], []⟩) R s := by
  have hline : 1000 ≤ sizeLine := small (Nat.le_refl _)
  intro k
  induction k with
  | zero =>
    intro i s H ts hk hi I hf st hB hS hts hc hR
    have hin : i = xs.length := by omega
    obtain ⟨hTI, h1, h2, _, hz⟩ := st
    obtain ⟨q1, q2⟩ := hq H hB
    obtain ⟨its, rv, p1, _⟩ := I.list q1
    obtain ⟨its2, rv2, p2, _⟩ := I.list q2
    have l1' := rv.length
    have e1 : its.toArray[i]? = none := by simp; omega
    refine codeAny_builtin F.entry_extend_loop ?_
    rw [Around.under_plainId F.plain_extend_loop _]
    show wpAny _ A.in1 (pyNext (.ref z) >>= _) _ _ s
    refine wpAny_bind ?_
    have fin : ∀ h', (∀ c o, c ≠ z → c ≠ TO → c ≠ i1 → c ≠ i2 → s.heap.get? c = some o → h'.get? c = some o) → R (.ok (.ret res)) { s with heap := h' } := fun h' hk =>
      hR _ H ts (I.turnedL (t' := s.toks) (ch := [z, TO, i1, i2]) (fun c o hb q => hk c o (fun q' => hb (by simp [q'])) (fun q' => hb (by simp [q'])) (fun q' => hb (by simp [q'])) (fun q' => hb (by simp [q'])) q) hf) hB hS (by omega) hc
    rcases hz with ⟨hz, a, b, hTO⟩ | ⟨T, f, oT, hz, hT, r1, r2, r3, r4⟩
    · exact wpAny_pyNext_zip_end hA D hz hTI hTO h1 h2 p1.isList p2.isList (.inl e1) fun h' hk => wpAny_pure (fin h' hk)
    · exact wpAny_pyNext_zip_end_held hA D hz hT hTI h1 h2 p1.isList p2.isList (.inl e1) fun h' hk => wpAny_pure (fin h' fun c o c1 c2 c3 c4 e => hk c o c1 c3 c4 e)
  | succ k ih =>
    intro i s H ts hk hi I hf st hB hS hts hc hR
    have hlt : i < xs.length := by omega
    have hlt2 : i < ys.length := by omega
    obtain ⟨hTI, h1, h2, ⟨oO, hO⟩, hz⟩ := st
    obtain ⟨q1, q2⟩ := hq H hB
    obtain ⟨its, rv, p1, _⟩ := I.list q1
    obtain ⟨its2, rv2, p2, _⟩ := I.list q2
    obtain ⟨u, hu, ru⟩ := rv.get (List.getElem?_eq_getElem hlt)
    obtain ⟨u2, hu2, ru2⟩ := rv2.get (List.getElem?_eq_getElem hlt2)
    have lt : ∀ {c o}, s.heap.get? c = some o → s.heap.objs.size ≠ c := fun e => Nat.ne_of_gt (Heap.lt_size e)
    have n1 : s.heap.objs.size ≠ i1 := let ⟨_, e, _⟩ := h1; lt e
    have n2 : s.heap.objs.size ≠ i2 := let ⟨_, e, _⟩ := h2; lt e
    have nO : s.heap.objs.size ≠ TO := lt hO
    have hfr : H s.heap.objs.size = none := I.hok.fresh (Nat.le_refl _)
    have nNS : S ≠ s.heap.objs.size := ne_of_none hS hfr
    refine codeAny_builtin F.entry_extend_loop ?_
    rw [Around.under_plainId F.plain_extend_loop _]
    show wpAny _ A.in1 (pyNext (.ref z) >>= _) _ _ s
    refine wpAny_bind ?_
    have nz : s.heap.objs.size ≠ z := by
      rcases hz with ⟨hz, _⟩ | ⟨_, _, _, hz, _⟩
      · exact lt hz
      · exact lt hz
    -- one step on
    have on : ∀ h', IsPair h' s.heap.objs.size u u2 → (∀ c o, c ≠ z → c ≠ TO → c ≠ i1 → c ≠ i2 → s.heap.get? c = some o → h'.get? c = some o) → zst z TI TO i1 i2 l1 l2 S (i + 1) h' →
        wpAny (model X.prog X.w) A.in1 (updateSeq S (·.push (.ref s.heap.objs.size)) >>= fun _ => again (.builtin "list.extend.loop" ⟨[.ref S, .ref z, res], []⟩))
          (fun fin s' => match fin with | .done f => R (.ok f) s' | .again c' => c'.quiet = true ∧ codeAny (model X.prog X.w) A c' R s') (fun e s' => R (.error e) s') { s with heap := h' } := by
      intro h' a5 hk' st'
      have new : ObjOk X.prog X.w (upd H s.heap.objs.size (.tup [xs[i], ys[i]])) h' s.heap.objs.size (.tup [xs[i], ys[i]]) :=
        ⟨by show 2 ≤ sizeLine; decide, [u, u2], .cons ru (.cons ru2 .nil), ⟨_, a5, rfl, _, rfl⟩⟩
      have I1 : Inv X pins σ (upd H s.heap.objs.size (.tup [xs[i], ys[i]])) { s with heap := h' } :=
        I.turnedNew (t' := s.toks) (ch := [z, TO, i1, i2]) (fun c o hb q => hk' c o (fun q' => hb (by simp [q'])) (fun q' => hb (by simp [q'])) (fun q' => hb (by simp [q'])) (fun q' => hb (by simp [q'])) q) hf (Nat.le_refl _) new
      have hS1 : (upd H s.heap.objs.size (.tup [xs[i], ys[i]])) S = some (.lst (ts.map V.ref)) := by rw [upd_ne nNS]; exact hS
      obtain ⟨hz1, its3, n3, rv3, hl3, hS3⟩ := I1.lstM hS1
      have hl3' : its3.length = i := by rw [← hl3, List.length_map, hts]
      have I2 := I1.lset (f := (·.push (.ref s.heap.objs.size))) (ys := (ts ++ [s.heap.objs.size]).map V.ref) (its' := its3 ++ [.ref s.heap.objs.size]) (t' := s.toks) hS1 hS3 (by simp) (by rw [List.map_append]; exact rv3.append (.cons rfl .nil)) (by rw [List.length_map, List.length_append, hts]; show i + 1 ≤ sizeLine; omega)
      refine wpAny_bind ?_
      refine wpAny_updateSeq hS3 rfl (wpAny_pure ⟨plainId_quiet F.plain_extend_loop _, ih (i + 1) _ _ (ts ++ [s.heap.objs.size]) (by omega) hlt I2 (fun b hb => ?_) (st'.at nS fun b o hb e => (Heap.get?_update_other _ _ (Ne.symm hb)).trans e) ?_ upd_same (by rw [List.length_append, hts] <;> rfl) ?_ hR⟩) (by rw [List.size_toArray]; omega) (by simp; omega)
      · have h0 := hf b hb
        refine ⟨?_, h0.2⟩
        have nb : b ≠ s.heap.objs.size := by
          simp only [List.mem_cons, List.not_mem_nil, or_false] at hb
          rcases hb with rfl | rfl | rfl | rfl
          · exact Ne.symm nz
          · exact Ne.symm nO
          · exact Ne.symm n1
          · exact Ne.symm n2
        have nb2 : b ≠ S := by
          obtain ⟨m1, m2, m3, m4, m5⟩ := nS
          simp only [List.mem_cons, List.not_mem_nil, or_false] at hb
          rcases hb with rfl | rfl | rfl | rfl
          · exact Ne.symm m1
          · exact Ne.symm m3
          · exact Ne.symm m4
          · exact Ne.symm m5
        rw [upd_ne nb2, upd_ne nb]
        exact h0.1
      · exact fun c o hc e => by
          have e' := hB c o hc e
          rw [upd_ne hc, upd_ne (ne_of_none e' hfr)]
          exact e'
      · intro j t x y hj hx hy
        by_cases c : j < i
        · rw [List.getElem?_append_left (by omega)] at hj
          have h5 := hc j t x y hj hx hy
          have nt : t ≠ S := ne_of h5 hS (by intro w; cases w)
          rw [upd_ne nt, upd_ne (ne_of_none h5 hfr)]
          exact h5
        · have hj2 := (List.getElem?_eq_some_iff.mp hj).1
          rw [List.length_append] at hj2
          have hj3 : j < ts.length + 1 := hj2
          have : j = i := by omega
          subst this
          rw [List.getElem?_append_right (by omega), hts, Nat.sub_self] at hj
          cases (Option.some.inj hj)
          rw [List.getElem?_eq_getElem hlt] at hx
          rw [List.getElem?_eq_getElem hlt2] at hy
          cases (Option.some.inj hx)
          cases (Option.some.inj hy)
          rw [upd_ne (Ne.symm nNS), upd_same]
    rcases hz with ⟨hz, a, b, hTO⟩ | ⟨T, f, oT, hz, hT, r1, r2, r3, r4⟩
    · refine wpAny_pyNext_zip_item D hz hTI hTO h1 h2 p1.isList p2.isList (x := u) (y := u2) (by simpa using hu) (by simpa using hu2) fun h' a1 a2 a3 a4 a5 a6 hk' => ?_
      exact on h' a5 hk' ⟨hk' _ _ D.TIz D.TITO D.TIi1 D.TIi2 hTI, a3, a4, ⟨_, a2⟩, .inr ⟨s.heap.objs.size, false, _, a1, a5, nz, n1, n2, Ne.symm nNS⟩⟩
    · refine wpAny_pyNext_zip_item_held D hz hT hTI h1 h2 p1.isList p2.isList (x := u) (y := u2) (by simpa using hu) (by simpa using hu2) fun h' a1 a3 a4 a5 a6 hk' => ?_
      exact on h' a5 (fun c o c1 c2 c3 c4 e => hk' c o c1 c3 c4 e) ⟨hk' _ _ D.TIz D.TIi1 D.TIi2 hTI, a3, a4, ⟨oO, hk' _ _ D.TOz D.TOi1 D.TOi2 hO⟩, .inr ⟨T, true, oT, a1, hk' _ _ r1 r2 r3 hT, r1, r2, r3, r4⟩⟩
theorem list_of_zip {X : Cx} {pins : List (Addr × Obj)} {σ : L2.St} {H : Hp} {s : Shared} (I : Inv X pins σ H s) (hcalm : X.calm = true) {z TI TO i1 i2 l1 l2 : Addr} (D : ZipApart z TI TO i1 i2 l1 l2) {xs ys : List V} (hlen : xs.length = ys.length) (h1000 : xs.length ≤ 1000)
    (hz : IsZip s.heap z TI TO .none) (hTI : IsPair s.heap TI (.ref i1) (.ref i2)) (hTO : ∃ a b, IsPair s.heap TO a b) (h1 : s.heap.IsListIter i1 l1 0) (h2 : s.heap.IsListIter i2 l2 0)
    (hf : ∀ b ∈ [z, TO, i1, i2], FpOk X pins H b) (hq1 : SqL X.K H l1 xs) (hq2 : SqL X.K H l2 ys) {Q : VK}
    (q : ∀ S ts H2, Same H H2 → H S = none → H2 S = some (.lst (ts.map V.ref)) → ts.length = xs.length → PairsAt H2 ts xs ys → Q (.ref S) H2) :
    wpAny (model X.prog X.w) X.A (call (.type "list") [.ref z]) (EP X pins σ Q) X.xe s := by
  have hh : X.A.in1.in1.handled = none := show X.A.handled = none from I.ok.hd hcalm
  obtain ⟨a0, b0, hTO⟩ := hTO
  have nz : s.heap.objs.size ≠ z := Nat.ne_of_gt (Heap.lt_size hz)
  have nTI : s.heap.objs.size ≠ TI := Nat.ne_of_gt (Heap.lt_size hTI)
  have nTO : s.heap.objs.size ≠ TO := Nat.ne_of_gt (Heap.lt_size hTO)
  have n1 : s.heap.objs.size ≠ i1 := let ⟨_, e, _⟩ := h1; Nat.ne_of_gt (Heap.lt_size e)
  have n2 : s.heap.objs.size ≠ i2 := let ⟨_, e, _⟩ := h2; Nat.ne_of_gt (Heap.lt_size e)
  have hfr : H s.heap.objs.size = none := I.hok.fresh (Nat.le_refl _)
  refine callType_codes (Q₁ := fun obj s₁ => obj = .ref s.heap.objs.size ∧ s₁ = { s with heap := s.heap.push { cls := .type "list", data := .seq #[] } }) F.called_list (F.typeCall_list_1 _) F.entry_list_init
    (code_list_new _ ⟨rfl, rfl⟩) fun obj s₁ h₁ => ?_
  obtain ⟨rfl, rfl⟩ := h₁
  have hS : (s.heap.push { cls := .type "list", data := .seq #[] }).get? s.heap.objs.size = some { cls := .type "list", data := .seq #[] } := Heap.get?_push_size _ rfl
  refine ⟨⟨_, hS, rfl⟩, F.args_list_init_2 _ _, ?_⟩
  show wpAny _ X.A.in1.in1 (do let old ← Builtin.List.listItems (.ref s.heap.objs.size); Builtin.List.listUpdate (.ref s.heap.objs.size) (fun _ => #[]); letGo old.toList.reverse; Builtin.List.listExtendWith (.ref s.heap.objs.size) (.ref z) .none) _ _ _
  refine wpAny_bind ?_
  unfold Builtin.List.listItems
  refine wpAny_bind (wpAny_seqItems hS rfl (wpAny_pure ?_))
  show wpAny _ X.A.in1.in1 (updateSeq s.heap.objs.size (fun _ => #[]) >>= fun _ => letGo (#[] : Array Value).toList.reverse >>= fun _ => Builtin.List.listExtendWith (.ref s.heap.objs.size) (.ref z) .none) _ _ _
  refine wpAny_bind (wpAny_updateSeq hS rfl ?_)
  have hS₂ := Heap.get?_update_self (Obj.mapSeq (fun _ => (#[] : Array Value))) hS rfl
  have oth : ∀ b o, b ≠ s.heap.objs.size → s.heap.get? b = some o → ((s.heap.push { cls := .type "list", data := .seq #[] }).update s.heap.objs.size (Obj.mapSeq (fun _ => (#[] : Array Value)))).get? b = some o :=
    fun b o hb e => (Heap.get?_update_other _ _ (Ne.symm hb)).trans (Heap.get?_push_of_some _ e)
  refine wpAny_bind (wpAny_letGo ?_)
  generalize hh2 : (s.heap.push { cls := .type "list", data := .seq #[] }).update s.heap.objs.size (Obj.mapSeq (fun _ => (#[] : Array Value))) = hp2 at hS₂ oth
  unfold Builtin.List.listExtendWith
  refine wpAny_bind (wpAny_typeOf (T := "zip") ⟨_, oth _ _ (Ne.symm nz) hz, rfl⟩ ?_)
  have g1 : Builtin.List.listSameRef (.ref s.heap.objs.size) (.ref z) = false := by simp [Builtin.List.listSameRef, nz]
  have g2 : (Value.type "zip" == Value.type "list") = false := by decide
  have g3 : (Value.type "zip" == Value.type "tuple") = false := by decide
  simp only [g1, g2, g3, Bool.or_false, Bool.false_eq_true, if_false]
  refine wpAny_bind (wpAny_pyIter_zip (oth _ _ (Ne.symm nz) hz) ?_)
  refine wpAny_bind (wpAny_holding ?_)
  unfold Builtin.List.listLengthHint
  refine wpAny_bind (wpAny_specialOf (T := "zip") ⟨_, oth _ _ (Ne.symm nz) hz, rfl⟩ zip_no_len' ?_)
  show wpAny _ X.A.in1.in1 (specialOf (Value.ref z) (Str.ofString "__length_hint__") >>= _) _ _ _
  refine wpAny_bind (wpAny_specialOf (T := "zip") ⟨_, oth _ _ (Ne.symm nz) hz, rfl⟩ zip_no_hint' ?_)
  refine wpAny_pure ?_
  show wpAny _ X.A.in1.in1 (rule "list.extend.makes-room" >>= fun _ => Builtin.List.listTouch (.ref s.heap.objs.size) >>= fun _ =>
    again (.builtin "list.extend.loop" ⟨[.ref s.heap.objs.size, .ref z, .none], []⟩)) _ _ _
  refine wpAny_bind (wpAny_rule ?_)
  refine wpAny_bind ?_
  show wpAny _ X.A.in1.in1 (updateSeq s.heap.objs.size (·.push .none) >>= fun _ => updateSeq s.heap.objs.size (·.pop)) _ _ _
  refine wpAny_bind (wpAny_updateSeq hS₂ rfl ?_)
  have hS₃ := Heap.get?_update_self (Obj.mapSeq (·.push Value.none)) hS₂ rfl
  refine wpAny_updateSeq (hz := by seq_fits) hS₃ rfl ?_
  have hS₄ := Heap.get?_update_self (Obj.mapSeq (·.pop)) hS₃ rfl
  have oth2 : ∀ b o, b ≠ s.heap.objs.size → s.heap.get? b = some o → ((hp2.update s.heap.objs.size (Obj.mapSeq (·.push Value.none))).update s.heap.objs.size (Obj.mapSeq (·.pop))).get? b = some o :=
    fun b o hb e => (Heap.get?_update_other _ _ (Ne.symm hb)).trans ((Heap.get?_update_other _ _ (Ne.symm hb)).trans (oth b o hb e))
  have new : ObjOk X.prog X.w (upd H s.heap.objs.size (.lst [])) ((hp2.update s.heap.objs.size (Obj.mapSeq (·.push Value.none))).update s.heap.objs.size (Obj.mapSeq (·.pop))) s.heap.objs.size (.lst []) :=
    ⟨Nat.zero_le _, [], _, .nil, hS₄⟩
  have I1 : Inv X pins σ (upd H s.heap.objs.size (.lst [])) { s with heap := (hp2.update s.heap.objs.size (Obj.mapSeq (·.push Value.none))).update s.heap.objs.size (Obj.mapSeq (·.pop)) } :=
    I.laid (t' := s.toks) (fun b u e => oth2 b u (Nat.ne_of_lt (Heap.lt_size e)) e) (Nat.le_refl _) new
  have S1 := same_new hfr (.lst [])
  refine wpAny_pure ⟨plainId_quiet F.plain_extend_loop _, ext_zip (A := X.A.in1) (R := wants (fun r s₂ => r = Value.none ∧ EP X pins σ Q (Value.ref s.heap.objs.size) s₂) X.xe) hh D hlen h1000 ⟨nz, nTI, nTO, n1, n2⟩ .none (upd H s.heap.objs.size (.lst [])) (fun H' B' => ?_) (xs.length - 0) 0 _ _ [] rfl (Nat.zero_le _) I1 (fun b hb => ?_) ?_ But.refl upd_same rfl (fun j t x y hj => by simp at hj) fun s' H' ts' I' B' hS' hl' hp' => ⟨rfl, .ref s.heap.objs.size, H', I', rfl, q _ ts' H' (but_same hfr S1 B') hfr hS' hl' hp'⟩⟩
  · have S2 := but_same hfr S1 B'
    exact ⟨S2.seq hq1, S2.seq hq2⟩
  · have h0 := hf b hb
    refine ⟨?_, h0.2⟩
    have nb2 : b ≠ s.heap.objs.size := by
      simp only [List.mem_cons, List.not_mem_nil, or_false] at hb
      rcases hb with rfl | rfl | rfl | rfl
      · exact Ne.symm nz
      · exact Ne.symm nTO
      · exact Ne.symm n1
      · exact Ne.symm n2
    rw [upd_ne nb2]
    exact h0.1
  · exact ⟨oth2 _ _ (Ne.symm nTI) hTI, h1.at fun o e => oth2 _ o (Ne.symm n1) e, h2.at fun o e => oth2 _ o (Ne.symm n2) e, ⟨_, oth2 _ _ (Ne.symm nTO) hTO⟩, .inl ⟨oth2 _ _ (Ne.symm nz) hz, a0, b0, oth2 _ _ (Ne.symm nTO) hTO⟩⟩
def tListZip (K : PySem.W.Frag) (ta : TA) : TE := fun σ H Q => ta σ H fun vs H1 => ∃ a b xs ys, vs = [.ref a, .ref b] ∧ SqL K H1 a xs ∧ SqL K H1 b ys ∧ xs.length = ys.length ∧ xs.length ≤ 1000 ∧
  ∀ S ts H2, Same H1 H2 → H1 S = none → H2 S = some (.lst (ts.map V.ref)) → ts.length = xs.length → PairsAt H2 ts xs ys → Q (.ref S) H2
theorem pe_listZip {X : Cx} {e e2 : Expr} {ta : TA} {p p2 pos pos2 : Pos} (hc : X.calm = true) (hg0 : Gl X "list") (hm0 : X.mg "list" = none) (hg : Gl X "zip") (hm : X.mg "zip" = none) (ha : PA X [e, e2] ta)
    (hs : starEach [e, e2] X.env = (false, eval e X.env) :: starEach [e2] X.env := by rfl) (hpl : (backTo pos2 (starEach [e2] X.env)).any (·.1) = false := by rfl)
    (na : starEach [.Call (.Name "zip" p2) [e, e2] [] pos2] X.env = (false, eval (.Call (.Name "zip" p2) [e, e2] [] pos2) X.env) :: starEach [] X.env := by rfl) :
    PE X (.Call (.Name "list" p) [.Call (.Name "zip" p2) [e, e2] [] pos2] [] pos) (tListZip X.K ta) := by
  refine ⟨fun pins s σ H Q I h => ?_⟩
  refine Call_ (ld_blt I hg0 hm0 boot_list (PyProof.Rows.callWith_type1 (args_cons ?_ na) na))
  refine Call_ (ld_blt I hg hm PyProof.Rows.boot_zip (PyProof.Rows.callWith_type1 (thn (ha.run pos2 pins s σ H _ I h) fun us s1 ⟨vs, H1, I1, r1, q1⟩ => ?_) hs hpl))
  obtain ⟨a, b, xs, ys, ex, hqx, hqy, hl, h1000, q⟩ := q1
  subst ex
  cases r1 with
  | cons r rr =>
    cases rr with
    | cons r' rr =>
      cases rr
      cases r
      cases r'
      obtain ⟨its, rv, p1, _⟩ := I1.list hqx
      obtain ⟨its2, rv2, p2, _⟩ := I1.list hqy
      have la : a < s1.heap.objs.size := p1.lt
      have lb : b < s1.heap.objs.size := p2.lt
      refine call_zip_2 p1.isList p2.isList fun h' hz hTI hTO h1 h2 hsz hk => args_nil ?_
      have I2 : Inv X pins σ H1 { s1 with heap := h' } := I1.kept (t' := s1.toks) hk
      refine list_of_zip (s := { s1 with heap := h' }) I2 hc (PySem.W.ktu_apart s1.heap.objs.size a b la lb) hl h1000 hz hTI ⟨_, _, hTO⟩ h1 h2 (fun c hcm => ?_) hqx hqy q
      have e' : c = s1.heap.objs.size + 4 ∨ c = s1.heap.objs.size + 3 ∨ c = s1.heap.objs.size ∨ c = s1.heap.objs.size + 1 := by simpa using hcm
      have hle : s1.heap.objs.size ≤ c := by
        rcases e' with z | z | z | z
        · rw [z]; exact Nat.le_add_right _ _
        · rw [z]; exact Nat.le_add_right _ _
        · rw [z]; exact Nat.le_refl _
        · rw [z]; exact Nat.le_add_right _ _
      exact I1.fpOk hle (I1.hok.fresh hle)
/-- [.. for x, y in zip(xs, ys)] -/
theorem lc_zip {K : PySem.W.Frag} {a b : Addr} {xs ys : List V} {g : TG} {tt : TT} {te : TE} {vs : List Nat} {σ : L2.St} {H1 : Hp} {D : Addr} {Qd : Hp → Prop} (hlen : xs.length = ys.length) (Pv : Nat → Hp → Prop) (h0 : Pv 0 (upd H1 D (.lst []))) (hl : ∀ i H, i ≤ xs.length → Pv i H → SqL K H a xs ∧ SqL K H b ys)
    (hs : ∀ (i : Nat) x y (T : Addr) H, xs[i]? = some x → ys[i]? = some y → Pv i H → H T = none → g (.ref T) (wipe σ vs) (upd H T (.tup [x, y])) fun σ2 H2 => wipe σ2 vs = wipe σ vs ∧ tt σ2 H2 fun b H3 =>
      if b = true then te σ2 H3 fun y H4 => ∃ acc, H4 D = some (.lst acc) ∧ acc.length < sizeLine ∧ Pv (i + 1) (upd H4 D (.lst (acc ++ [y]))) else Pv (i + 1) H3) (hd : ∀ H, Pv xs.length H → Qd H) :
    ∃ W : Nat → Nat → Hp → Prop, (∃ m, W 0 m (upd H1 D (.lst []))) ∧ ∀ i m H, W i m H →
      ((Itz K a b).stop i H ∧ Qd H) ∨ ((Itz K a b).go i H ∧ ∃ Nx : Hp → Prop, (∀ H', Nx H' → ∃ m', m' < m ∧ W (i + 1) m' H') ∧ ∀ x H', (Itz K a b).yld i H x H' → g x (wipe σ vs) H' fun σ2 H2 => wipe σ2 vs = wipe σ vs ∧ tt σ2 H2 fun b H3 =>
        if b = true then te σ2 H3 fun y H4 => ∃ acc, H4 D = some (.lst acc) ∧ acc.length < sizeLine ∧ Nx (upd H4 D (.lst (acc ++ [y]))) else Nx H3) := by
  refine lc_it (I := Itz K a b) (n := xs.length) Pv h0 (fun i H hi p => ?_) (fun H p => ?_) ?_ hd
  · obtain ⟨h1, h2⟩ := hl i H (Nat.le_of_lt hi) p
    exact ⟨xs, ys, xs[i], ys[i], h1, h2, List.getElem?_eq_getElem hi, List.getElem?_eq_getElem (hlen ▸ hi)⟩
  · obtain ⟨h1, h2⟩ := hl _ H (Nat.le_refl _) p
    exact ⟨xs, ys, h1, h2, .inl (Nat.le_refl _)⟩
  · rintro i x H H' hi p ⟨T, u, v, rfl, hT, rfl, hu, hv⟩
    obtain ⟨h1, h2⟩ := hl i H (Nat.le_of_lt hi) p
    exact hs i u v T H (hu xs h1) (hv ys h2) p hT
end Toy
/-! ### sorted(t) of a tuple -/
namespace SrtO
open PySem PyProof.Rows Srt
section
variable {prog : Program} {w : World} {A : Around} {E : Value → Shared → Prop} {s : Shared}
theorem collect_tupT {l : Addr} {vs : List Value} {Q : List Value → Shared → Prop} (hl : s.heap.IsTuple l vs.toArray)
    (h : Q vs { s with heap := (s.heap.push (seqObj "list" #[] 0)).update s.heap.objs.size (Obj.mapSeq (· ++ vs.toArray)) }) (hsz : vs.length ≤ sizeLine := by size_fits) :
    wpAny (model prog w) A (collect (.ref l)) Q E s := by
  obtain ⟨o, ho, hc, n, hd⟩ := id hl
  unfold collect
  refine wpAny_bind (wpAny_runValue (codeAny_builtin entry_proto_collect' ?_))
  show wpAny _ _ (do again (.builtin "list.__iadd__" ⟨[← newList [], .ref l], []⟩)) _ _ s
  refine wpAny_bind (wpAny_newList (wpAny_pure ⟨Code.quiet_builtin _ (by decide +kernel), codeAny_builtin entry_list_iadd' ?_⟩))
  show wpAny _ _ (Builtin.List.listExtendWith (.ref s.heap.objs.size) (.ref l) (.ref s.heap.objs.size)) _ _ { s with heap := s.heap.push (seqObj "list" #[] 0) }
  unfold Builtin.List.listExtendWith
  have ho' : (s.heap.push (seqObj "list" #[] 0)).get? l = some o := Heap.get?_push_of_some _ ho
  refine wpAny_bind (wpAny_typeOf (T := "tuple") ⟨o, ho', hc⟩ ?_)
  have ht : (Value.type "tuple" == Value.type "tuple") = true := by rfl
  rw [if_pos (by rw [ht]; simp)]
  refine wpAny_bind (listItems_at ho' hd ?_)
  refine wpAny_bind (listItems_at (xs := #[]) (n := 0) (Heap.get?_push_size _ rfl) rfl ?_)
  rw [if_neg (by simp)]
  refine wpAny_bind (listUpdate_at (xs := #[]) (n := 0) (Heap.get?_push_size _ rfl) rfl ?_ (Nat.zero_le _) (by show (#[] ++ vs.toArray).size ≤ sizeLine + 1; simp only [Array.size_append, List.size_toArray, List.length_nil]; omega))
  refine wpAny_pure ?_
  show wpAny (model prog w) A (do
      let o ← load s.heap.objs.size
      match o.data with
      | .seq xs _ => pure xs.toList
      | _ => unsupported "internal:collect") Q E { s with heap := (s.heap.push (seqObj "list" #[] 0)).update s.heap.objs.size (Obj.mapSeq (· ++ vs.toArray)) }
  refine wpAny_bind (wpAny_load (get?_update_seq (Heap.get?_push_size _ rfl) _) ?_)
  show wpAny _ _ (pure ((#[] : Array Value) ++ vs.toArray).toList) Q E _
  rw [show ((#[] : Array Value) ++ vs.toArray).toList = vs by simp]
  exact wpAny_pure h
theorem sorted_ordT {l : Addr} {vs : List Value} {ltv : Value → Value → Bool} {Q : Value → Shared → Prop} (O : Swo ltv) (hl : s.heap.IsTuple l vs.toArray) (hz : vs.length ≤ sizeLine)
    (hS : 2 ≤ vs.length → ∀ (h₁ : Heap) (a : Addr), h₁.get? a = some (seqObj "list" vs.toArray 0) → (∀ b o, s.heap.get? b = some o → b ≠ a ∧ h₁.get? b = some o) → SortableO prog w A.in1.in1 { s with heap := h₁ } a vs ltv)
    (h : ∀ out : List Value, Srtd ltv out → Stb ltv out vs → Q (.ref (s.heap.objs.size + 1)) { s with heap := sortedAll s.heap vs out.toArray }) :
    wpAny (model prog w) A (call (.builtin "sorted") [.ref l]) Q E s := by
  refine Calls.call_function_entry kind_sorted plain_sorted entry_sorted (args_sorted1 _) ?_
  unfold Builtin.«sorted»
  refine wpAny_bind (m := checkCount "sorted" 1 1 _) (wpAny_pure ?_)
  refine wpAny_bind (collect_tupT hl ?_ hz)
  refine wpAny_bind (wpAny_newList ?_ hz)
  have hsz : ((s.heap.push (seqObj "list" #[] 0)).update s.heap.objs.size (Obj.mapSeq (· ++ vs.toArray))).objs.size = s.heap.objs.size + 1 := by
    rw [Heap.size_update, size_push']
  have hoL : (((s.heap.push (seqObj "list" #[] 0)).update s.heap.objs.size (Obj.mapSeq (· ++ vs.toArray))).push (seqObj "list" vs.toArray 0)).get? (s.heap.objs.size + 1) = some (seqObj "list" vs.toArray 0) := by
    rw [← hsz]; exact Heap.get?_push_size _ rfl
  have keep : ∀ b o, s.heap.get? b = some o → b ≠ s.heap.objs.size + 1 ∧ (((s.heap.push (seqObj "list" #[] 0)).update s.heap.objs.size (Obj.mapSeq (· ++ vs.toArray))).push (seqObj "list" vs.toArray 0)).get? b = some o := fun b o q => by
    have hlt : b < s.heap.objs.size := Heap.lt_size q
    refine ⟨Nat.ne_of_lt (Nat.lt_succ_of_lt hlt), Heap.get?_push_of_some _ ?_⟩
    rw [Heap.get?_update_ne _ _ _ _ (Nat.ne_of_lt hlt)]
    exact Heap.get?_push_of_some _ q
  show wpAny _ _ _ _ _ { s with heap := ((s.heap.push (seqObj "list" #[] 0)).update s.heap.objs.size (Obj.mapSeq (· ++ vs.toArray))).push (seqObj "list" vs.toArray 0) }
  rw [hsz]
  refine wpAny_bind (wpAny_holding (wpAny_call_entry slot_list_sort ⟨_, hoL, rfl⟩ entry_list_sort (list_sort_ord O hoL hz (fun h2 => hS h2 _ _ hoL keep) fun out hs hb => ⟨_, rfl, ?_⟩) (args_list_sort _)))
  exact wpAny_pure ⟨_, rfl, h out hs hb⟩
end
end SrtO
namespace Toy
open PySem PySem.Spec PyProof.Rows L2
def rSortedIT (K : PySem.W.Frag) : List V → Hp → VK → Prop := fun vs H Q => ∃ (a : Addr) (ns : List Int), vs = [V.ref a] ∧ SqT K H a (ns.map V.int) ∧
  ∀ (ns' : List Int) (p : Addr), ns'.Perm ns → ns'.Pairwise (· ≤ ·) → H p = none → Q (.ref p) (upd H p (.lst (ns'.map V.int)))
theorem cr_sortedIT {X : Cx} : CallR X (.builtin "sorted") (rSortedIT X.K) := by
  intro pins s σ H vs us Q I r h
  obtain ⟨a, ns, rfl, hs, q⟩ := h
  obtain ⟨its, rv, hl, hz⟩ := I.tuple hs
  rw [Vals.ref1 r]
  have hi := rv.ints
  refine SrtO.sorted_ordT SrtO.swo_int (tup_is hl) (by rw [← rv.length]; exact hz) (fun h2 h₁ a' _ _ => SrtO.ints_sortable hi h2) fun out h1 h2 => ?_
  obtain ⟨k1, k2, k3⟩ := SrtO.ints_out hi h1 h2
  obtain ⟨ep, he'⟩ := PyProof.Rows.sortedAll_at s.heap its out.toArray
  have hlen : ((out.map SrtO.iv).map V.int).length ≤ sizeLine := by
    rw [List.length_map, k2.length_eq]
    rw [List.length_map] at hz
    exact hz
  exact ⟨.ref _, upd H (s.heap.objs.size + 1) (.lst ((out.map SrtO.iv).map V.int)), I.laid (t' := s.toks) (fun _ _ => PyProof.Rows.sortedAll_old) (Nat.le_succ _) ⟨hlen, out, ep, vals_of_ints k1, he'⟩, rfl, q _ _ k2 k3 (I.hok.fresh (Nat.le_succ _))⟩
/-! ### xs[lo::step] of a list of an even number of things, by twos -/
def by2 {α : Type} (lo : Nat) (xs : List α) : List α := (List.range (xs.length / 2)).filterMap fun i => xs[lo + 2 * i]?
def tStep (K : PySem.W.Frag) (lo : Nat) (te : TE) : TE := fun σ H Q => te σ H fun x H1 => ∃ a xs, x = .ref a ∧ SqL K H1 a xs ∧ xs.length % 2 = 0 ∧ ∀ p, H1 p = none → Q (.ref p) (upd H1 p (.lst (by2 lo xs)))
theorem by2_len {α : Type} {lo : Nat} (hl : lo ≤ 1) {xs : List α} : (by2 lo xs).length ≤ xs.length := by
  unfold by2
  refine Nat.le_trans (List.length_filterMap_le _ _) ?_
  rw [List.length_range]
  omega
theorem pick2 {lo : Nat} (hl : lo ≤ 1) {its : List Value} (h2 : its.length % 2 = 0) : slicePick its.toArray (some (lo : Int)) none (some 2) = (by2 lo its).toArray := by
  unfold slicePick by2
  congr 1
  have e : sliceBounds (some (lo : Int)) none (some 2) its.toArray.size = (if its.length = 0 then (0 : Int) else (lo : Int), (its.length : Int), 2) := by
    simp only [sliceBounds, Option.getD_some, List.size_toArray]
    have h1 : ¬ ((lo : Int) < 0) := by omega
    simp only [h1, if_false, show (2 : Int) > 0 by decide, if_true]
    split
    · congr 1; omega
    · congr 1; omega
  rw [e]
  dsimp only
  unfold sliceRange
  by_cases h0 : its.length = 0
  · have : its = [] := List.eq_nil_of_length_eq_zero h0
    subst this
    rfl
  · simp only [h0, if_false, show (2 : Int) > 0 by decide, if_true]
    rw [if_pos (by omega : (lo : Int) < (its.length : Int)), show (((its.length : Int) - lo + 2 - 1) / 2).toNat = its.length / 2 by omega, List.filterMap_map]
    refine congrArg (fun f => List.filterMap f (List.range (its.length / 2))) (funext fun k => ?_)
    show its.toArray[((lo : Int) + 2 * (k : Int)).toNat]? = _
    rw [show ((lo : Int) + 2 * (k : Int)).toNat = lo + 2 * k by omega]
    simp
theorem Vals.by2 {lo : Nat} {xs : List V} {us : List Value} (r : Vals xs us) : Vals (by2 lo xs) (by2 lo us) := by
  unfold Toy.by2
  rw [r.length]
  generalize List.range (us.length / 2) = l
  induction l with
  | nil => exact .nil
  | cons i l ih =>
    cases hx : xs[lo + 2 * i]? with
    | none =>
      have hu : us[lo + 2 * i]? = none := by
        rw [List.getElem?_eq_none_iff] at hx ⊢
        rw [← r.length]; exact hx
      rw [List.filterMap_cons, List.filterMap_cons, hx, hu]
      exact ih
    | some x =>
      obtain ⟨u, hu, ru⟩ := r.get hx
      rw [List.filterMap_cons, List.filterMap_cons, hx, hu]
      exact .cons ru ih
theorem pe_step2 {X : Cx} {e : Expr} {te : TE} {lo : Nat} (hlo : lo ≤ 1) {i : Int} (hi : i = (lo : Int)) {k j : Nat} {p1 p2 p3 pos : Pos} (he : PE X e te) : PE X (.Subscript e (.Slice (some (.Constant (.int i) k p1)) none (some (.Constant (.int 2) j p2)) p3) pos) (tStep X.K lo te) := by
  subst hi
  refine ⟨fun pins s σ H Q I h => ?_⟩
  refine Subscript_ (thn (he.run pins s σ H _ I h) fun v s1 ⟨x, H1, I1, r1, q1⟩ => ?_)
  obtain ⟨a, xs, ex, hx, heven, q⟩ := q1
  subst ex
  cases r1
  have hlw : PO X (some (.Constant (.int (lo : Int)) k p1)) (tPart (tC (.int (lo : Int)))) := po_some pe_int
  have hst : PO X (some (.Constant (.int 2) j p2)) (tPart (tC (.int 2))) := po_some pe_int
  refine wpAny_Slice (thn (hlw.run pins s1 σ H1 (fun o H2 => o = some (lo : Int) ∧ H2 = H1) I1 ⟨_, rfl, rfl, rfl⟩) fun vl s2 ⟨l, H2, I2, pl, el, e2⟩ => ?_)
  subst el e2
  refine thn (po_none.run pins s2 σ H2 (fun o H3 => o = none ∧ H3 = H2) I2 ⟨rfl, rfl⟩) fun vu s3 ⟨u, H3, I3, pu, eu, e3⟩ => ?_
  subst eu e3
  refine thn (hst.run pins s3 σ H3 (fun o H4 => o = some 2 ∧ H4 = H3) I3 ⟨2, rfl, rfl, rfl⟩) fun vs s4 ⟨o, H4, I4, ps, eo, e4⟩ => ?_
  subst eo e4
  have I5 : Inv X pins σ H4 { s4 with heap := s4.heap.push { cls := .type "slice", data := .fields #[vl, vu, vs] } } := I4.kept (t' := s4.toks) fun b ob q => Heap.get?_push_of_some _ q
  obtain ⟨its, r, ht, hz⟩ := I5.list hx
  have hlen := r.length
  show wpAny (model X.prog X.w) X.A (subscriptTail e (.Slice (some (.Constant (.int (lo : Int)) k p1)) none (some (.Constant (.int 2) j p2)) p3) (.ref a) (.ref s4.heap.objs.size)) (EP X pins σ Q) X.xe { s4 with heap := s4.heap.push { cls := .type "slice", data := .fields #[vl, vu, vs] } }
  refine tail_any (ops := [.ref a, .ref s4.heap.objs.size]) ht.isList.typeIs (PySem.slot_list_getitem.lookup) ?_ (by with_unfolding_all rfl)
  refine wpAny_getItem_list_slice ht.isList (Heap.IsSliceOf.new _ vl vu vs) pl pu ps (by decide) ?_ (by rw [List.size_toArray]; omega)
  rw [pick2 hlo (by omega)]
  refine ⟨.ref _, _, I5.laid (t' := s4.toks) (o := .lst (by2 lo xs)) (fun b ob q => Heap.get?_push_of_some _ q) (Nat.le_refl _) ?_, rfl, q _ (I5.hok.fresh (Nat.le_refl _))⟩
  exact ⟨Nat.le_trans (by2_len hlo) hz, _, 0, Vals.by2 r, Heap.get?_push_size _ rfl⟩
/-! ### [.. for i in range(lo, hi, c)] -/
theorem lc_rangeC {lo c : Int} {n : Nat} {g : TG} {tt : TT} {te : TE} {vs : List Nat} {σ : L2.St} {H1 : Hp} {D : Addr} {Qd : Hp → Prop} (Pv : Nat → Hp → Prop) (h0 : Pv 0 (upd H1 D (.lst [])))
    (hs : ∀ (i : Nat) H, i < n → Pv i H → g (.int (lo + (i : Nat) * c)) (wipe σ vs) H fun σ2 H2 => wipe σ2 vs = wipe σ vs ∧ tt σ2 H2 fun b H3 =>
      if b = true then te σ2 H3 fun y H4 => ∃ acc, H4 D = some (.lst acc) ∧ acc.length < sizeLine ∧ Pv (i + 1) (upd H4 D (.lst (acc ++ [y]))) else Pv (i + 1) H3) (hd : ∀ H, Pv n H → Qd H) :
    ∃ W : Nat → Nat → Hp → Prop, (∃ m, W 0 m (upd H1 D (.lst []))) ∧ ∀ i m H, W i m H →
      ((Itc lo c n).stop i H ∧ Qd H) ∨ ((Itc lo c n).go i H ∧ ∃ Nx : Hp → Prop, (∀ H', Nx H' → ∃ m', m' < m ∧ W (i + 1) m' H') ∧ ∀ x H', (Itc lo c n).yld i H x H' → g x (wipe σ vs) H' fun σ2 H2 => wipe σ2 vs = wipe σ vs ∧ tt σ2 H2 fun b H3 =>
        if b = true then te σ2 H3 fun y H4 => ∃ acc, H4 D = some (.lst acc) ∧ acc.length < sizeLine ∧ Nx (upd H4 D (.lst (acc ++ [y]))) else Nx H3) := by
  refine lc_it (I := Itc lo c n) (n := n) Pv h0 (fun i H hi p => hi) (fun H p => Nat.le_refl _) ?_ hd
  rintro i x H H' hi p ⟨e, y⟩
  subst e y
  exact hs i _ hi p
end Toy
/-! ### xs[::-1] of a list -/
namespace Toy
open PySem PySem.Spec PyProof.Rows L2
def tRevL (K : PySem.W.Frag) (te : TE) : TE := fun σ H Q => te σ H fun x H1 => ∃ a xs, x = .ref a ∧ SqL K H1 a xs ∧ ∀ p, H1 p = none → Q (.ref p) (upd H1 p (.lst xs.reverse))
theorem pickR {its : List Value} : slicePick its.toArray none none (some (-1)) = its.reverse.toArray := by
  unfold slicePick
  congr 1
  have e : sliceBounds none none (some (-1)) its.toArray.size = ((its.length : Int) - 1, -1, -1) := by
    simp only [sliceBounds, Option.getD_some, List.size_toArray]
    rfl
  rw [e]
  dsimp only
  unfold sliceRange
  have h1 : ¬ ((-1 : Int) > 0) := by decide
  simp only [h1, if_false]
  have hc : (if (its.length : Int) - 1 > -1 then ((its.length : Int) - 1 - -1 - -1 - 1) / (- -1) else 0).toNat = its.length := by
    split
    · rw [show (- -1 : Int) = 1 by decide, Int.ediv_one]; omega
    · omega
  rw [hc, List.filterMap_map]
  apply List.ext_getElem?
  intro i
  have key : ∀ n, n ≤ its.length → (List.range n).filterMap ((fun j => its.toArray[j]?) ∘ fun k : Nat => ((its.length : Int) - 1 + -1 * (k : Int)).toNat) = its.reverse.take n := by
    intro n
    induction n with
    | zero => intro _; rfl
    | succ n ih =>
      intro h
      have hn : n < its.reverse.length := by rw [List.length_reverse]; omega
      rw [List.range_succ, List.filterMap_append, ih (by omega), List.take_succ, List.getElem?_eq_getElem hn]
      congr 1
      rw [List.filterMap_cons, List.filterMap_nil]
      have e2 : ((fun j => its.toArray[j]?) ∘ fun k : Nat => ((its.length : Int) - 1 + -1 * (k : Int)).toNat) n = some its.reverse[n] := by
        show its.toArray[((its.length : Int) - 1 + -1 * (n : Int)).toNat]? = _
        rw [show ((its.length : Int) - 1 + -1 * (n : Int)).toNat = its.length - 1 - n by omega, List.getElem_reverse, List.getElem?_toArray, List.getElem?_eq_getElem (by omega)]
      rw [e2] <;> rfl
  have k2 := key its.length (Nat.le_refl _)
  rw [List.take_of_length_le (by rw [List.length_reverse]; exact Nat.le_refl _)] at k2
  exact congrArg (fun l => l[i]?) k2
theorem pe_revL {X : Cx} {e : Expr} {te : TE} {k : Nat} {p1 p2 p3 pos : Pos} (he : PE X e te) : PE X (.Subscript e (.Slice none none (some (.UnaryOp .USub (.Constant (.int 1) k p1) p2)) p3) pos) (tRevL X.K te) := by
  refine ⟨fun pins s σ H Q I h => ?_⟩
  refine Subscript_ (thn (he.run pins s σ H _ I h) fun v s1 ⟨x, H1, I1, r1, q1⟩ => ?_)
  obtain ⟨a, xs, ex, hx, q⟩ := q1
  subst ex
  cases r1
  have hst : PO X (some (.UnaryOp .USub (.Constant (.int 1) k p1) p2)) (tPart _) := po_some (pe_un un_neg pe_int)
  refine wpAny_Slice (thn (po_none.run pins s1 σ H1 (fun o H2 => o = none ∧ H2 = H1) I1 ⟨rfl, rfl⟩) fun vl s2 ⟨l, H2, I2, pl, el, e2⟩ => ?_)
  subst el e2
  refine thn (po_none.run pins s2 σ H2 (fun o H3 => o = none ∧ H3 = H2) I2 ⟨rfl, rfl⟩) fun vu s3 ⟨u, H3, I3, pu, eu, e3⟩ => ?_
  subst eu e3
  refine thn (hst.run pins s3 σ H3 (fun o H4 => o = some (-1) ∧ H4 = H3) I3 ?_) fun vs s4 ⟨o, H4, I4, ps, eo, e4⟩ => ?_
  · exact ⟨_, rfl, _, rfl, rfl, rfl⟩
  subst eo e4
  have I5 : Inv X pins σ H4 { s4 with heap := s4.heap.push { cls := .type "slice", data := .fields #[vl, vu, vs] } } := I4.kept (t' := s4.toks) fun b ob q => Heap.get?_push_of_some _ q
  obtain ⟨its, r, ht, hz⟩ := I5.list hx
  have hlen := r.length
  show wpAny (model X.prog X.w) X.A (subscriptTail e (.Slice none none (some (.UnaryOp .USub (.Constant (.int 1) k p1) p2)) p3) (.ref a) (.ref s4.heap.objs.size)) (EP X pins σ Q) X.xe { s4 with heap := s4.heap.push { cls := .type "slice", data := .fields #[vl, vu, vs] } }
  refine tail_any (ops := [.ref a, .ref s4.heap.objs.size]) ht.isList.typeIs (PySem.slot_list_getitem.lookup) ?_ (by with_unfolding_all rfl)
  refine wpAny_getItem_list_slice ht.isList (Heap.IsSliceOf.new _ vl vu vs) pl pu ps (by decide) ?_ (by rw [List.size_toArray]; omega)
  rw [pickR]
  refine ⟨.ref _, _, I5.laid (t' := s4.toks) (o := .lst xs.reverse) (fun b ob q => Heap.get?_push_of_some _ q) (Nat.le_refl _) ?_, rfl, q _ (I5.hok.fresh (Nat.le_refl _))⟩
  exact ⟨by rw [List.length_reverse]; exact hz, _, 0, Vals.reverse r, Heap.get?_push_size _ rfl⟩
end Toy
namespace Toy
open PySem PySem.Spec PyProof.Rows L2
end Toy
namespace L2
open PySem PySem.Spec PyProof.Rows
theorem tuple_mul1 (l : Addr) (items : Array Value) (n : Nat) (dd : Option Addr) (sl : Array (Option Value)) (u : Tok) :
    Meets (Builtin.«tuple.__mul__» ⟨[.ref l, .int 1 u], []⟩) (fun _ R s => s.heap.get? l = some { cls := .type "tuple", dict := dd, data := .seq items n, slots := sl } ∧ R (.ok (.ret (Value.ref l))) s) :=
  .of_wp fun prog w A R s h => by
    obtain ⟨hp, g, d, tk, os⟩ := s
    obtain ⟨hl, h⟩ := h
    have f1 := AutoSeq1.idx_int
    have c1 : (items.isEmpty || (1 : Int) == 1) = true := by simp
    wp_walk using wpAny_loadPart' hl
    repeat (first
      | (refine wpAny_ite_true (decide_eq_true c1) ?_; wp_walk using wpAny_loadPart' hl)
      | (refine wpAny_ite_false (decide_eq_false (by decide)) ?_; wp_walk using wpAny_loadPart' hl))
    exact ⟨_, rfl, h⟩
/-- a tuple, so many times -/
def rRepA (K : PySem.W.Frag) : R2 := fun x y H Q => (y = .int 1 ∧ (∃ l xs, x = .ref l ∧ SqT K H l xs) ∧ Q x H) ∨ rRepT K x y H Q
theorem op_repA {X : Cx} : OpR X (binaryOp .Mult) (rRepA X.K) := by
  intro pins s σ H x y v u Q I rx ry h
  rcases h with ⟨rfl, ⟨l, xs, rfl, hT⟩, q⟩ | h
  · cases rx
    obtain ⟨t, rfl⟩ := ry
    obtain ⟨its, r, ⟨⟨cls, dd, data, sl⟩, ho, hc, n, hd⟩, hs⟩ := I.tuple hT
    simp only at hc hd
    subst hc hd
    refine wpAny_binaryOp_repeat_ref (T := "tuple") (U := "int") (by decide) ⟨_, ho, rfl⟩ (fun s' => typeIs_int s' 1 t) noFill_tuple_mul F.fills_int_mul F.slot_int_rmul repeat_tuple F.slot_int_index.lookup
      (call_meets F.slot_int_rmul (typeIs_int s 1 t) F.entry_int_rmul (F.args_int_rmul_2 _ _) (int_rmul_tuple 1 t l its.toArray n dd sl)
        ⟨ho, rfl, ⟨_, ho, rfl⟩, call_meets F.slot_tuple_mul ⟨_, ho, rfl⟩ F.entry_tuple_mul (F.args_tuple_mul_2 _ _) (tuple_mul1 l its.toArray n dd sl t) ⟨ho, ?_⟩⟩)
    exact ⟨.ref l, H, I, rfl, q⟩
  · exact op_repT pins s σ H x y v u Q I rx ry h
end L2
namespace Toy
open PySem PySem.Spec PyProof.Rows L2
/-! ### shown data: one look -/
structure Sh (d : PyData) (n c : Nat) : Prop where
  s : d.showable = true
  dep : d.depth ≤ n
  c : cst d ≤ c
theorem shAll {α : Type} {f : α → PyData} {n c : Nat} : ∀ {xs : List α}, (∀ x ∈ xs, Sh (f x) n c) → PyData.showableAll (xs.map f) = true ∧ PyData.depthAll (xs.map f) ≤ n ∧ csts (xs.map f) ≤ (c + 4) * xs.length
  | [], _ => ⟨rfl, Nat.zero_le _, Nat.zero_le _⟩
  | x :: r, h => by
    obtain ⟨h1, h2, h3⟩ := shAll (xs := r) fun y hy => h y (List.mem_cons_of_mem _ hy)
    obtain ⟨g1, g2, g3⟩ := h x List.mem_cons_self
    refine ⟨?_, ?_, ?_⟩
    · simp only [List.map_cons, PyData.showableAll, g1, h1, Bool.and_self]
    · simp only [List.map_cons, PyData.depthAll]; omega
    · simp only [List.map_cons, csts, List.length_cons, Nat.mul_add, Nat.mul_one]; omega
theorem Sh.tup {α : Type} {f : α → PyData} {n c m k j : Nat} {xs : List α} (h : ∀ x ∈ xs, Sh (f x) n c) (hm : n + 1 ≤ m) (hl : xs.length ≤ j) (hk : (c + 4) * j + 4 ≤ k) : Sh (.tuple (xs.map f)) m k := by
  obtain ⟨h1, h2, h3⟩ := shAll h
  have h4 := Nat.mul_le_mul_left (c + 4) hl
  refine ⟨h1, ?_, ?_⟩
  · simp only [PyData.depth]; omega
  · show csts _ + 4 ≤ k; omega
theorem Sh.lst {α : Type} {f : α → PyData} {n c m k j : Nat} {xs : List α} (h : ∀ x ∈ xs, Sh (f x) n c) (hm : n + 1 ≤ m) (hl : xs.length ≤ j) (hk : (c + 4) * j + 4 ≤ k) : Sh (.list (xs.map f)) m k := by
  obtain ⟨h1, h2, h3⟩ := shAll h
  have h4 := Nat.mul_le_mul_left (c + 4) hl
  refine ⟨h1, ?_, ?_⟩
  · simp only [PyData.depth]; omega
  · show csts _ + 4 ≤ k; omega
theorem int_sh {i : Int} (h1 : -(10 ^ 100) ≤ i) (h2 : i ≤ 10 ^ 100) : Sh (.int i) 0 1921 := by
  refine ⟨?_, Nat.le_refl _, Nat.le_refl _⟩
  have : i.natAbs.log2 < 1920 := log_lt (by decide) (Nat.lt_of_le_of_lt (m := 10 ^ 100) (by omega) (by decide))
  simpa [PyData.showable] using this
theorem Sh.mono {d : PyData} {n c n' c' : Nat} (h : Sh d n c) (h1 : n ≤ n') (h2 : c ≤ c') : Sh d n' c' := ⟨h.s, Nat.le_trans h.dep h1, Nat.le_trans h.c h2⟩
theorem rep_ {K : PySem.W.Frag} {σ : L2.St} {H : Hp} {x : V} {d : PyData} {n c : Nat} {Q : VK} (hd : Dp K H x d) (s : Sh d n c) (hn : n ≤ 60 := by decide) (hc : c ≤ 10000000 := by decide) (q : Q (.str d.shown) H) :
    tNil σ H (fun xs H2 => (fun vs H1 => rRepr K vs H1 Q) (x :: xs) H2) :=
  ⟨x, d, rfl, hd, s.s, Nat.le_trans s.dep hn, shown_sz s.s (dp_noDict d x hd) (Nat.le_trans s.c hc), q⟩
theorem dps {α : Type} {K : PySem.W.Frag} {H : Hp} {g : α → V} {f : α → PyData} : ∀ {xs : List α}, (∀ x ∈ xs, Dp K H (g x) (f x)) → DpAll K H (xs.map g) (xs.map f)
  | [], _ => .nil
  | x :: r, h => .cons (h x List.mem_cons_self) (dps fun y hy => h y (List.mem_cons_of_mem _ hy))
/-! ### data: rows of numbers, grids, folds by a table -/
def iN (xs : List Nat) : List Int := xs.map fun n : Nat => (n : Int)
theorem iN_at {xs : List Nat} {j n : Nat} (h : xs[j]? = some n) : ((iN xs).map V.int)[j]? = some (.int (n : Nat)) := by
  unfold iN
  rw [List.getElem?_map, List.getElem?_map, h] <;> rfl
theorem iN_len {xs : List Nat} : ((iN xs).map V.int).length = xs.length := by unfold iN; rw [List.length_map, List.length_map]
theorem iN_snoc {xs : List Nat} {n : Nat} : (iN xs).map V.int ++ [.int (n : Nat)] = (iN (xs ++ [n])).map V.int := by unfold iN; rw [List.map_append, List.map_append] <;> rfl
theorem iN_app {xs ys : List Nat} : (iN xs).map V.int ++ (iN ys).map V.int = (iN (xs ++ ys)).map V.int := by unfold iN; rw [List.map_append, List.map_append]
theorem iN_mem {xs : List Nat} {y : V} {i : Nat} (h : ((iN xs).map V.int)[i]? = some y) : ∃ n : Nat, y = .int (n : Nat) ∧ xs[i]? = some n := by
  unfold iN at h
  rw [List.getElem?_map, List.getElem?_map] at h
  cases hx : xs[i]? with
  | none => rw [hx] at h; cases h
  | some n => rw [hx] at h; exact ⟨n, (Option.some.inj h).symm, rfl⟩
theorem getD_at {xs : List Nat} {j : Nat} (h : j < xs.length) : xs[j]? = some (xs.getD j 0) := by
  rw [List.getD_eq_getElem?_getD, List.getElem?_eq_getElem h] <;> rfl
theorem getD_mem {xs : List Nat} {j : Nat} (h : j < xs.length) : xs.getD j 0 ∈ xs := by
  rw [List.getD_eq_getElem?_getD, List.getElem?_eq_getElem h]
  exact List.getElem_mem h
theorem cut_to {xs : List V} (n : Nat) : cutV xs none (some (n : Int)) = xs.take n := by
  unfold cutV
  rw [HT.sIx_nat, HT.sIx_none, List.drop_zero, Nat.sub_zero]
  by_cases c : n ≤ xs.length
  · rw [Nat.min_eq_left c]
  · rw [Nat.min_eq_right (by omega), List.take_length, List.take_of_length_le (by omega)]
theorem cut_from {xs : List V} (n : Nat) : cutV xs (some (n : Int)) none = xs.drop n := by
  unfold cutV
  rw [HT.sIx_nat, HT.sIx_none]
  by_cases c : n ≤ xs.length
  · rw [Nat.min_eq_left c]
    exact List.take_of_length_le (by rw [List.length_drop]; omega)
  · rw [Nat.min_eq_right (by omega), Nat.sub_self, List.take_zero, List.drop_of_length_le (by omega)]
/-! ### data: toggles, merged -/
theorem by2_map {α β : Type} {lo : Nat} {f : α → β} {xs : List α} : by2 lo (xs.map f) = (by2 lo xs).map f := by
  unfold by2
  rw [List.length_map, List.map_filterMap]
  exact congrArg (fun g => List.filterMap g _) (funext fun i => by rw [List.getElem?_map])
theorem by2_is {lo : Nat} (hl : lo ≤ 1) {xs : List Nat} (h : xs.length % 2 = 0) : by2 lo xs = (List.range (xs.length / 2)).map fun i => xs.getD (lo + 2 * i) 0 := by
  unfold by2
  rw [← List.filterMap_eq_map]
  have key : ∀ l : List Nat, (∀ i ∈ l, i < xs.length / 2) → l.filterMap (fun i => xs[lo + 2 * i]?) = l.filterMap (some ∘ fun i => xs.getD (lo + 2 * i) 0) := by
    intro l hl2
    induction l with
    | nil => rfl
    | cons i l ih =>
      have h1 := hl2 i List.mem_cons_self
      have h2 : lo + 2 * i < xs.length := by omega
      rw [List.filterMap_cons, List.filterMap_cons, List.getElem?_eq_getElem h2, ih fun j hj => hl2 j (List.mem_cons_of_mem _ hj)]
      show xs[lo + 2 * i] :: _ = xs.getD (lo + 2 * i) 0 :: _
      rw [List.getD_eq_getElem?_getD, List.getElem?_eq_getElem h2] <;> rfl
  exact key _ fun i hi => List.mem_range.mp hi
theorem by2_half {lo : Nat} (hl : lo ≤ 1) {xs : List Nat} (h : xs.length % 2 = 0) : (by2 lo xs).length = xs.length / 2 := by rw [by2_is hl h, List.length_map, List.length_range]
def mgd : Nat → List Nat → List Nat → List (Nat × Nat) × List Nat
  | 0, a, b => ([(a.getD 0 0, b.getD 0 0)], [a.getD 0 0, b.getD 0 0])
  | n + 1, a, b => ((mgd n (by2 0 a) (by2 1 b)).1 ++ (mgd n (by2 1 a) (by2 0 b)).1 ++ (mgd n (by2 0 a) (by2 1 b)).2.zip (mgd n (by2 1 a) (by2 0 b)).2,
      ((mgd n (by2 0 a) (by2 1 b)).2.zip (mgd n (by2 1 a) (by2 0 b)).2).flatMap fun p => [p.1, p.2])
def fl (z : List (Nat × Nat)) : List Nat := z.flatMap fun p => [p.1, p.2]
theorem fl_len (z : List (Nat × Nat)) : (fl z).length = 2 * z.length := by
  induction z with
  | nil => rfl
  | cons p z ih =>
    show (p.1 :: p.2 :: fl z).length = _
    rw [List.length_cons, List.length_cons, ih, List.length_cons]; omega
theorem fl_snoc (z : List (Nat × Nat)) (p : Nat × Nat) : fl (z ++ [p]) = fl z ++ [p.1, p.2] := by unfold fl; rw [List.flatMap_append] <;> rfl
theorem two_pow_even (n : Nat) : 2 ^ (n + 1) % 2 = 0 ∧ 2 ^ (n + 1) / 2 = 2 ^ n := by rw [Nat.pow_succ]; omega
theorem mg_len : ∀ n {a b : List Nat}, a.length = 2 ^ n → b.length = 2 ^ n → (mgd n a b).2.length = 2 ^ (n + 1)
  | 0, _, _, _, _ => rfl
  | n + 1, a, b, ha, hb => by
    obtain ⟨e1, e2⟩ := two_pow_even n
    have h1 := mg_len n (a := by2 0 a) (b := by2 1 b) (by rw [by2_half (by decide) (by omega)]; omega) (by rw [by2_half (by decide) (by omega)]; omega)
    have h2 := mg_len n (a := by2 1 a) (b := by2 0 b) (by rw [by2_half (by decide) (by omega)]; omega) (by rw [by2_half (by decide) (by omega)]; omega)
    show (fl _).length = _
    rw [fl_len, List.length_zip, h1, h2, Nat.min_self, Nat.pow_succ _ (n + 1)]; omega
theorem mg_tog : ∀ n {a b : List Nat}, a.length = 2 ^ n → b.length = 2 ^ n → (mgd n a b).1.length = (n + 1) * 2 ^ n
  | 0, _, _, _, _ => rfl
  | n + 1, a, b, ha, hb => by
    obtain ⟨e1, e2⟩ := two_pow_even n
    have l1 : (by2 0 a).length = 2 ^ n := by rw [by2_half (by decide) (by omega)]; omega
    have l2 : (by2 1 b).length = 2 ^ n := by rw [by2_half (by decide) (by omega)]; omega
    have l3 : (by2 1 a).length = 2 ^ n := by rw [by2_half (by decide) (by omega)]; omega
    have l4 : (by2 0 b).length = 2 ^ n := by rw [by2_half (by decide) (by omega)]; omega
    show ((mgd n (by2 0 a) (by2 1 b)).1 ++ (mgd n (by2 1 a) (by2 0 b)).1 ++ (mgd n (by2 0 a) (by2 1 b)).2.zip (mgd n (by2 1 a) (by2 0 b)).2).length = _
    rw [List.length_append, List.length_append, List.length_zip, mg_tog n l1 l2, mg_tog n l3 l4, mg_len n l1 l2, mg_len n l3 l4, Nat.min_self]
    have e3 : 2 ^ (n + 1) = 2 * 2 ^ n := by rw [Nat.pow_succ]; omega
    rw [e3, show n + 1 + 1 = (n + 1) + 1 by rfl, Nat.add_mul (n + 1) 1, Nat.mul_left_comm (n + 1) 2]
    omega
/-- the whole net -/
def cl : Nat → List Nat → List (Nat × Nat) × List Nat
  | 0, ls => ([], ls)
  | n + 1, ls => ((cl n (ls.take (2 ^ n))).1 ++ (cl n (ls.drop (2 ^ n))).1 ++ (mgd n (cl n (ls.take (2 ^ n))).2 (cl n (ls.drop (2 ^ n))).2).1, (mgd n (cl n (ls.take (2 ^ n))).2 (cl n (ls.drop (2 ^ n))).2).2)
theorem cl_len : ∀ n {ls : List Nat}, ls.length = 2 ^ n → (cl n ls).2.length = 2 ^ n
  | 0, _, h => h
  | n + 1, ls, h => by
    have e3 : 2 ^ (n + 1) = 2 ^ n + 2 ^ n := by rw [Nat.pow_succ]; omega
    exact mg_len n (cl_len n (by rw [List.length_take]; omega)) (cl_len n (by rw [List.length_drop]; omega))
def PtsAt (H : Hp) (ts : List Addr) (ps : List (Nat × Nat)) : Prop := ts.length = ps.length ∧ ∀ (j : Nat) (t : Addr) (p : Nat × Nat), ts[j]? = some t → ps[j]? = some p → H t = some (.tup [.int (p.1 : Nat), .int (p.2 : Nat)])
theorem PtsAt.same {H H' : Hp} {ts : List Addr} {ps : List (Nat × Nat)} (e : Same H H') (h : PtsAt H ts ps) : PtsAt H' ts ps := ⟨h.1, fun j t p h1 h2 => e _ _ (h.2 j t p h1 h2)⟩
theorem PtsAt.app {H : Hp} {ts us : List Addr} {ps qs : List (Nat × Nat)} (a : PtsAt H ts ps) (b : PtsAt H us qs) : PtsAt H (ts ++ us) (ps ++ qs) := by
  refine ⟨by rw [List.length_append, List.length_append, a.1, b.1], fun j t p h1 h2 => ?_⟩
  by_cases c : j < ts.length
  · rw [List.getElem?_append_left c] at h1
    rw [List.getElem?_append_left (by rw [← a.1]; exact c)] at h2
    exact a.2 j t p h1 h2
  · rw [List.getElem?_append_right (by omega)] at h1
    rw [List.getElem?_append_right (by rw [← a.1]; omega)] at h2
    rw [← a.1] at h2
    exact b.2 _ t p h1 h2
theorem PtsAt.one {H : Hp} {t : Addr} {p : Nat × Nat} (h : H t = some (.tup [.int (p.1 : Nat), .int (p.2 : Nat)])) : PtsAt H [t] [p] := by
  refine ⟨rfl, fun j t' p' h1 h2 => ?_⟩
  cases j with
  | zero => cases (Option.some.inj h1); cases (Option.some.inj h2); exact h
  | succ j => simp at h1
theorem pts_of {H : Hp} {ts : List Addr} {u l : List Nat} (hl : ts.length = ((iN u).map V.int).length) (he : u.length = l.length) (h : PairsAt H ts ((iN u).map V.int) ((iN l).map V.int)) : PtsAt H ts (u.zip l) := by
  rw [iN_len] at hl
  refine ⟨by rw [List.length_zip, ← he, Nat.min_self, hl], fun j t p h1 h2 => ?_⟩
  obtain ⟨a, b⟩ := p
  obtain ⟨c1, c2⟩ := List.getElem?_zip_eq_some.mp h2
  exact h j t _ _ h1 (iN_at c1) (iN_at c2)
def PL (H : Hp) (L : Addr) (ps : List (Nat × Nat)) : Prop := ∃ ts : List Addr, H L = some (.lst (ts.map V.ref)) ∧ PtsAt H ts ps
theorem PL.same {H H' : Hp} {L : Addr} {ps : List (Nat × Nat)} (e : Same H H') (h : PL H L ps) : PL H' L ps := by
  obtain ⟨ts, h1, h2⟩ := h; exact ⟨ts, e _ _ h1, h2.same e⟩
def MgAt (H : Hp) (T : Addr) (r : List (Nat × Nat) × List Nat) : Prop := ∃ L1 L2 : Addr, H T = some (.tup [.ref L1, .ref L2]) ∧ PL H L1 r.1 ∧ H L2 = some (.lst ((iN r.2).map V.int))
/-- the row of what is told is new -/
def FrT (H H' : Hp) (T : Addr) : Prop := ∀ L1 L2 : Addr, H' T = some (.tup [.ref L1, .ref L2]) → H L2 = none
theorem FrT.of {H H' : Hp} {T L1 L2 : Addr} (h : H' T = some (.tup [.ref L1, .ref L2])) (n : H L2 = none) : FrT H H' T := fun M1 M2 h2 => by
  have e := (HO.tup.inj (Option.some.inj (h.symm.trans h2)))
  cases e
  exact n
def PTu (H : Hp) (U : Addr) (ps : List (Nat × Nat)) : Prop := ∃ ts : List Addr, H U = some (.tup (ts.map V.ref)) ∧ PtsAt H ts ps
theorem PTu.same {H H' : Hp} {L : Addr} {ps : List (Nat × Nat)} (e : Same H H') (h : PTu H L ps) : PTu H' L ps := by
  obtain ⟨ts, h1, h2⟩ := h; exact ⟨ts, e _ _ h1, h2.same e⟩
/-! ### data: the counter -/
structure Ct where
  dx : Addr
  P : Addr
  U : Addr
  R : Addr
  M : Addr
  A : Addr
def cf (c : Ct) : List (Str × V) := putF "at" (.ref c.A) (putF "many_out" (.ref c.M) (putF "row" (.ref c.R) (putF "ups" (.ref c.U) (putF "pairs" (.ref c.P) []))))
theorem cf_pairs (c : Ct) : (cf c).lookup ("pairs" : Str) = some (.ref c.P) := by
  unfold cf
  rw [lookup_putF, if_neg (by decide +kernel), lookup_putF, if_neg (by decide +kernel), lookup_putF, if_neg (by decide +kernel), lookup_putF, if_neg (by decide +kernel), lookup_putF, if_pos rfl]
theorem cf_ups (c : Ct) : (cf c).lookup ("ups" : Str) = some (.ref c.U) := by
  unfold cf
  rw [lookup_putF, if_neg (by decide +kernel), lookup_putF, if_neg (by decide +kernel), lookup_putF, if_neg (by decide +kernel), lookup_putF, if_pos rfl]
theorem cf_row (c : Ct) : (cf c).lookup ("row" : Str) = some (.ref c.R) := by
  unfold cf
  rw [lookup_putF, if_neg (by decide +kernel), lookup_putF, if_neg (by decide +kernel), lookup_putF, if_pos rfl]
theorem cf_many (c : Ct) : (cf c).lookup ("many_out" : Str) = some (.ref c.M) := by
  unfold cf
  rw [lookup_putF, if_neg (by decide +kernel), lookup_putF, if_pos rfl]
theorem cf_at (c : Ct) : (cf c).lookup ("at" : Str) = some (.ref c.A) := by
  unfold cf
  rw [lookup_putF, if_pos rfl]
theorem cf_no (c : Ct) {m : Str} (h1 : ¬ m = "at") (h2 : ¬ m = "many_out") (h3 : ¬ m = "row") (h4 : ¬ m = "ups") (h5 : ¬ m = "pairs") : (cf c).lookup m = none := by
  unfold cf
  rw [lookup_putF, if_neg h1, lookup_putF, if_neg h2, lookup_putF, if_neg h3, lookup_putF, if_neg h4, lookup_putF, if_neg h5]
  rfl
/-- where a token is: its line and the next toggle to be looked at, or out -/
abbrev Sp1 := Nat × Option Nat
def AtsAt (H : Hp) (as : List Addr) (sp : List Sp1) : Prop := as.length = sp.length ∧ ∀ (j : Nat) (t : Addr) (s : Sp1), as[j]? = some t → sp[j]? = some s →
  match s with
  | (l, some b) => H t = some (.tup [.int (l : Nat), .int (b : Nat)])
  | (f, none) => H t = some (.tup [.int (f : Nat), .int (-1)])
structure CtAt (C : Addr) (H : Hp) (p : Addr) (c : Ct) (tg : List (Nat × Nat)) (row : List Nat) (ups : List Bool) (outs : List Nat) (sp : List Sp1) : Prop where
  ins_ : H p = some (.ins C c.dx (cf c))
  pairs_ : PL H c.P tg
  ups_ : H c.U = some (.lst (ups.map V.bl))
  row_ : H c.R = some (.lst ((iN row).map V.int))
  outs_ : H c.M = some (.lst ((iN outs).map V.int))
  ats_ : ∃ as : List Addr, H c.A = some (.lst (as.map V.ref)) ∧ AtsAt H as sp
  dist : [c.P, c.U, c.R, c.M, c.A].Nodup
  lu : ups.length = tg.length
  lo : outs.length = row.length
/-- only the lists of this counter that change have changed -/
def Bt (c : Ct) (H H' : Hp) : Prop := ∀ a o, a ≠ c.U → a ≠ c.M → a ≠ c.A → H a = some o → H' a = some o
theorem Bt.trans {c : Ct} {H H1 H2 : Hp} (a : Bt c H H1) (b : Bt c H1 H2) : Bt c H H2 := fun x o h1 h2 h3 h => b x o h1 h2 h3 (a x o h1 h2 h3 h)
theorem same_bt {c : Ct} {H H' : Hp} (s : Same H H') : Bt c H H' := fun x o _ _ _ h => s x o h
theorem Bt.U {c : Ct} {H : Hp} {o : HO} : Bt c H (upd H c.U o) := fun x o' h1 _ _ h => by rw [upd_ne h1]; exact h
theorem Bt.M {c : Ct} {H : Hp} {o : HO} : Bt c H (upd H c.M o) := fun x o' _ h1 _ h => by rw [upd_ne h1]; exact h
theorem Bt.A {c : Ct} {H : Hp} {o : HO} : Bt c H (upd H c.A o) := fun x o' _ _ h1 h => by rw [upd_ne h1]; exact h
/-- as long as its parts stay -/
theorem AtsAt.keep {H H' : Hp} {as : List Addr} {sp : List Sp1} (h : AtsAt H as sp) (k : ∀ t xs, H t = some (.tup xs) → H' t = some (.tup xs)) : AtsAt H' as sp := by
  refine ⟨h.1, fun j t s h1 h2 => ?_⟩
  have h3 := h.2 j t s h1 h2
  obtain ⟨l, b⟩ := s
  cases b with
  | some b => exact k _ _ h3
  | none => exact k _ _ h3
theorem PtsAt.keep {H H' : Hp} {ts : List Addr} {ps : List (Nat × Nat)} (h : PtsAt H ts ps) (k : ∀ t xs, H t = some (.tup xs) → H' t = some (.tup xs)) : PtsAt H' ts ps :=
  ⟨h.1, fun j t p h1 h2 => k _ _ (h.2 j t p h1 h2)⟩
theorem CtAt.but {C : Addr} {H H' : Hp} {p D : Addr} {c : Ct} {tg : List (Nat × Nat)} {row : List Nat} {ups : List Bool} {outs : List Nat} {sp : List Sp1} {ys : List V} (h : CtAt C H p c tg row ups outs sp) (b : But D H H') (hD : H D = some (.lst ys)) (n : D ∉ [c.P, c.U, c.R, c.M, c.A]) : CtAt C H' p c tg row ups outs sp := by
  simp only [List.mem_cons, List.not_mem_nil, or_false, not_or] at n
  obtain ⟨n1, n2, n3, n4, n5⟩ := n
  have k : ∀ t xs, H t = some (.tup xs) → H' t = some (.tup xs) := fun t xs e => b _ _ (ne_of e hD (by intro z; cases z)) e
  obtain ⟨ts, e1, e2⟩ := h.pairs_
  obtain ⟨as, e3, e4⟩ := h.ats_
  exact ⟨b _ _ (ne_of h.ins_ hD (by intro z; cases z)) h.ins_, ⟨ts, b _ _ (Ne.symm n1) e1, e2.keep k⟩, b _ _ (Ne.symm n2) h.ups_, b _ _ (Ne.symm n3) h.row_, b _ _ (Ne.symm n4) h.outs_, ⟨as, b _ _ (Ne.symm n5) e3, e4.keep k⟩, h.dist, h.lu, h.lo⟩
theorem CtAt.same {C : Addr} {H H' : Hp} {p : Addr} {c : Ct} {tg : List (Nat × Nat)} {row : List Nat} {ups : List Bool} {outs : List Nat} {sp : List Sp1} (h : CtAt C H p c tg row ups outs sp) (b : Same H H') : CtAt C H' p c tg row ups outs sp := by
  obtain ⟨ts, e1, e2⟩ := h.pairs_
  obtain ⟨as, e3, e4⟩ := h.ats_
  exact ⟨b _ _ h.ins_, ⟨ts, b _ _ e1, e2.same b⟩, b _ _ h.ups_, b _ _ h.row_, b _ _ h.outs_, ⟨as, b _ _ e3, e4.keep fun t xs e => b _ _ e⟩, h.dist, h.lu, h.lo⟩
/-- the next toggle with a line, from one on -/
def on (tg : List (Nat × Nat)) (l j : Nat) : Prop := l = (tg.getD j (0, 0)).1 ∨ l = (tg.getD j (0, 0)).2
structure Fd (tg : List (Nat × Nat)) (l b n : Nat) : Prop where
  lo : b ≤ n
  hi : n ≤ tg.length
  no : ∀ j, b ≤ j → j < n → ¬ on tg l j
  yes : n < tg.length → on tg l n
theorem Fd.uniq {tg : List (Nat × Nat)} {l b n m : Nat} (h : Fd tg l b n) (g : Fd tg l b m) : n = m := by
  rcases Nat.lt_trichotomy n m with c | c | c
  · exact absurd (h.yes (Nat.lt_of_lt_of_le c g.hi)) (g.no n h.lo c)
  · exact c
  · exact absurd (g.yes (Nat.lt_of_lt_of_le c h.hi)) (h.no m g.lo c)
theorem CtAt.tk {C : Addr} {H H' : Hp} {p : Addr} {c : Ct} {tg : List (Nat × Nat)} {row : List Nat} {ups : List Bool} {outs : List Nat} {sp : List Sp1} (h : CtAt C H p c tg row ups outs sp) (b : Bt c H H') : ∀ t xs, H t = some (.tup xs) → H' t = some (.tup xs) := fun t xs e => by
  obtain ⟨as, e3, _⟩ := h.ats_
  exact b t _ (ne_of e h.ups_ (by intro z; cases z)) (ne_of e h.outs_ (by intro z; cases z)) (ne_of e e3 (by intro z; cases z)) e
theorem CtAt.mv {C : Addr} {H H' : Hp} {p : Addr} {c : Ct} {tg : List (Nat × Nat)} {row : List Nat} {ups ups' : List Bool} {outs outs' : List Nat} {sp sp' : List Sp1} (h : CtAt C H p c tg row ups outs sp) (b : Bt c H H')
    (hu : H' c.U = some (.lst (ups'.map V.bl))) (hm : H' c.M = some (.lst ((iN outs').map V.int))) (ha : ∃ as : List Addr, H' c.A = some (.lst (as.map V.ref)) ∧ AtsAt H' as sp') (lu : ups'.length = ups.length) (lo : outs'.length = outs.length) : CtAt C H' p c tg row ups' outs' sp' := by
  obtain ⟨as, e3, _⟩ := h.ats_
  obtain ⟨ts, e1, e2⟩ := h.pairs_
  have d := h.dist
  simp only [List.nodup_cons, List.mem_cons, List.not_mem_nil, or_false, not_or, List.nodup_nil, and_true, not_false_eq_true] at d
  obtain ⟨⟨d1, d2, d3, d4⟩, ⟨d5, d6, d7⟩, ⟨d8, d9⟩, d10⟩ := d
  exact ⟨b _ _ (ne_of h.ins_ h.ups_ (by intro z; cases z)) (ne_of h.ins_ h.outs_ (by intro z; cases z)) (ne_of h.ins_ e3 (by intro z; cases z)) h.ins_,
    ⟨ts, b _ _ d1 d3 d4 e1, e2.keep (h.tk b)⟩, hu, b _ _ (Ne.symm d5) d8 d9 h.row_, hm, ha, h.dist, lu.trans h.lu, lo.trans h.lo⟩
theorem CtAt.ne {C : Addr} {H : Hp} {p : Addr} {c : Ct} {tg : List (Nat × Nat)} {row : List Nat} {ups : List Bool} {outs : List Nat} {sp : List Sp1} (h : CtAt C H p c tg row ups outs sp) : c.U ≠ c.M ∧ c.U ≠ c.A ∧ c.M ≠ c.A := by
  have d := h.dist
  simp only [List.nodup_cons, List.mem_cons, List.not_mem_nil, or_false, not_or, List.nodup_nil, and_true, not_false_eq_true] at d
  exact ⟨d.2.1.2.1, d.2.1.2.2, d.2.2.2⟩
def spAt (H : Hp) (t : Addr) (s : Sp1) : Prop := match s with
  | (l, some b) => H t = some (.tup [.int (l : Nat), .int (b : Nat)])
  | (f, none) => H t = some (.tup [.int (f : Nat), .int (-1)])
theorem AtsAt.snoc {H : Hp} {as : List Addr} {sp : List Sp1} {t : Addr} {s : Sp1} (h : AtsAt H as sp) (g : spAt H t s) : AtsAt H (as ++ [t]) (sp ++ [s]) := by
  refine ⟨by rw [List.length_append, List.length_append, h.1]; rfl, fun j t' s' h1 h2 => ?_⟩
  by_cases c : j < as.length
  · rw [List.getElem?_append_left c] at h1
    rw [List.getElem?_append_left (by rw [← h.1]; exact c)] at h2
    exact h.2 j t' s' h1 h2
  · rw [List.getElem?_append_right (by omega)] at h1
    rw [List.getElem?_append_right (by rw [← h.1]; omega)] at h2
    rw [← h.1] at h2
    cases hj : j - as.length with
    | zero => rw [hj] at h1 h2; cases (Option.some.inj h1); cases (Option.some.inj h2); exact g
    | succ n => rw [hj] at h1; simp at h1
theorem AtsAt.set {H : Hp} {as : List Addr} {sp : List Sp1} {t : Addr} {s : Sp1} {i : Nat} (h : AtsAt H as sp) (g : spAt H t s) : AtsAt H (as.set i t) (sp.set i s) := by
  refine ⟨by rw [List.length_set, List.length_set, h.1], fun j t' s' h1 h2 => ?_⟩
  by_cases c : i = j
  · subst c
    have hl : i < as.length := by
      obtain ⟨k, _⟩ := List.getElem?_eq_some_iff.mp h1
      rw [List.length_set] at k
      exact k
    rw [List.getElem?_set_self hl] at h1
    rw [List.getElem?_set_self (by rw [← h.1]; exact hl)] at h2
    cases (Option.some.inj h1); cases (Option.some.inj h2); exact g
  · rw [List.getElem?_set_ne c] at h1 h2
    exact h.2 j t' s' h1 h2
theorem eqV_int {a b : Nat} : eqV (.int (a : Nat)) (.int (b : Nat)) = true ↔ a = b := by
  show decide ((a : Int) = (b : Int)) = true ↔ a = b
  rw [decide_eq_true_iff]
  omega
theorem eqV_intF {a b : Nat} (h : a ≠ b) : eqV (.int (a : Nat)) (.int (b : Nat)) = false := by
  show decide ((a : Int) = (b : Int)) = false
  exact decide_eq_false (by omega)
theorem flat_iN {xs : List Nat} : ((iN xs).map V.int).all flatV = true := by
  rw [List.all_eq_true]
  intro x hx
  obtain ⟨i, _, rfl⟩ := List.mem_map.mp hx
  rfl
theorem in_pr {l a b : Nat} : inV (.int (l : Nat)) [.int (a : Nat), .int (b : Nat)] = decide (l = a ∨ l = b) := by
  have h : ∀ x y : Nat, eqV (.int (x : Nat)) (.int (y : Nat)) = decide (y = x) := fun x y => by
    show ((x : Int) == (y : Int)) = _
    by_cases c : y = x
    · subst c; simp
    · rw [decide_eq_false c]; simp; omega
  show (eqV (.int (a : Nat)) (.int (l : Nat)) || (eqV (.int (b : Nat)) (.int (l : Nat)) || false)) = _
  rw [h, h, Bool.or_false]
  by_cases c1 : l = a <;> by_cases c2 : l = b <;> simp [c1, c2]
theorem idx_le : ∀ {xs : List Nat} {m l : Nat}, xs[m]? = some l → xs.idxOf l ≤ m
  | [], m, l, h => by simp at h
  | x :: xs, m, l, h => by
    by_cases c : x = l
    · subst c; rw [List.idxOf_cons_self]; omega
    · rw [List.idxOf_cons, beq_false_of_ne c, cond_false]
      cases m with
      | zero => exact absurd (Option.some.inj h) c
      | succ m => exact Nat.succ_le_succ (idx_le (by simpa using h))
/-! ### the pot: digits, and a number mixed on -/
def PotAt (H : Hp) (p : Addr) : Prop := ∃ a b : Int, H p = some (.lst [.int a, .int b]) ∧ 0 ≤ a ∧ 0 ≤ b ∧ b < 2 ^ 40
theorem PotAt.same {H H' : Hp} {p : Addr} (e : Same H H') (h : PotAt H p) : PotAt H' p := by
  obtain ⟨a, b, h1, h2⟩ := h; exact ⟨a, b, e _ _ h1, h2⟩
theorem pot_ne {H : Hp} {p a : Addr} (h : PotAt H p) (n : H a = none) : a ≠ p := fun z => by obtain ⟨_, _, h1, _⟩ := h; rw [← z, n] at h1; cases h1
theorem PotAt.upd {H : Hp} {p D : Addr} {o : HO} (n : p ≠ D) (h : PotAt H p) : PotAt (L2.upd H D o) p := by
  obtain ⟨a, b, h1, h2⟩ := h; exact ⟨a, b, by rw [upd_ne n]; exact h1, h2⟩
/-! ### what was told -/
def tolds (sp : List Sp1) : List Nat := sp.filterMap fun s => if s.2 = none then some s.1 else none
theorem tolds_snoc {sp : List Sp1} {s : Sp1} : tolds (sp ++ [s]) = tolds sp ++ (if s.2 = none then [s.1] else []) := by
  unfold tolds
  rw [List.filterMap_append]
  congr 1
  rw [List.filterMap_cons, List.filterMap_nil]
  split <;> simp_all
/-! ### the plain law of the counting net -/
abbrev Cn := Nat → Nat
def stp (w m j : Nat) : Nat := (m + w - 1 - j) / w
/-- one toggle, by counts -/
def tg1 (x y : Nat) (u : Bool) (c : Cn) : Cn := fun l => if l = x then (if u = true then (c x + c y + 1) / 2 else (c x + c y) / 2) else if l = y then (if u = true then (c x + c y) / 2 else (c x + c y + 1) / 2) else c l
/-- all toggles from the i-th one on; w: who comes ahead of each -/
def fin (w : Nat → Cn) : List (Nat × Nat) → List Bool → Nat → Cn → Cn
  | p :: tg, u :: ups, i, c => fin w tg ups (i + 1) (tg1 p.1 p.2 u fun l => c l + w i l)
  | _, _, i, c => fun l => c l + w i l
def one (l : Nat) : Cn := fun x => if x = l then 1 else 0
def addAt (w : Nat → Cn) (i : Nat) (l : Nat) : Nat → Cn := fun j x => w j x + (if j = i then one l x else 0)
theorem fin_w {w w' : Nat → Cn} : ∀ {tg : List (Nat × Nat)} {ups : List Bool} {i : Nat} {c : Cn}, (∀ j x, i ≤ j → w j x = w' j x) → fin w tg ups i c = fin w' tg ups i c
  | [], ups, i, c, h => by
    cases ups <;> exact funext fun l => by show c l + w i l = c l + w' i l; rw [h i l (Nat.le_refl _)]
  | p :: tg, [], i, c, h => funext fun l => by show c l + w i l = c l + w' i l; rw [h i l (Nat.le_refl _)]
  | p :: tg, u :: ups, i, c, h => by
    show fin w tg ups (i + 1) _ = fin w' tg ups (i + 1) _
    rw [fin_w (w := w) (w' := w') fun j x hj => h j x (by omega)]
    congr 2
    exact funext fun l => by rw [h i l (Nat.le_refl _)]
theorem fin_c {w : Nat → Cn} {l : Nat} {tg : List (Nat × Nat)} {ups : List Bool} {i : Nat} {c : Cn} : fin w tg ups i (fun x => c x + one l x) = fin (addAt w i l) tg ups i c := by
  have e : ∀ x, c x + one l x + w i x = c x + addAt w i l i x := fun x => by unfold addAt; rw [if_pos rfl]; omega
  have g : ∀ j x, i + 1 ≤ j → w j x = addAt w i l j x := fun j x hj => by unfold addAt; rw [if_neg (by omega)]; rfl
  cases tg with
  | nil => cases ups <;> exact funext e
  | cons p tg =>
    cases ups with
    | nil => exact funext e
    | cons u ups =>
      show fin w tg ups (i + 1) _ = fin (addAt w i l) tg ups (i + 1) _
      rw [fin_w g]
      congr 2
      exact funext e
/-- past a toggle without the line -/
theorem fin_skip {w : Nat → Cn} {l : Nat} : ∀ {tg : List (Nat × Nat)} {ups : List Bool} {i b : Nat} {c : Cn}, b < tg.length → ups.length = tg.length → ¬ (l = (tg.getD b (0, 0)).1 ∨ l = (tg.getD b (0, 0)).2) → fin (addAt w (i + b) l) tg ups i c = fin (addAt w (i + b + 1) l) tg ups i c
  | [], _, _, _, _, h, _, _ => absurd h (Nat.not_lt_zero _)
  | p :: tg, [], _, _, _, _, h, _ => by cases h
  | p :: tg, u :: ups, i, 0, c, h, hu, n => by
    have n1 : ¬ (l = p.1 ∨ l = p.2) := n
    show fin (addAt w i l) tg ups (i + 1) (tg1 p.1 p.2 u fun x => c x + addAt w i l i x) = fin (addAt w (i + 1) l) tg ups (i + 1) (tg1 p.1 p.2 u fun x => c x + addAt w (i + 1) l i x)
    have e1 : (tg1 p.1 p.2 u fun x => c x + addAt w i l i x) = fun x => (tg1 p.1 p.2 u fun x => c x + w i x) x + one l x := by
      funext x
      unfold tg1 addAt one
      simp only [if_true]
      have a1 : p.1 ≠ l := fun z => n1 (.inl z.symm)
      have a2 : p.2 ≠ l := fun z => n1 (.inr z.symm)
      rw [if_neg a1, if_neg a2]
      by_cases b1 : x = p.1
      · rw [if_pos b1, if_pos b1, b1, if_neg a1] <;> rfl
      · rw [if_neg b1, if_neg b1]
        by_cases b2 : x = p.2
        · rw [if_pos b2, if_pos b2, b2, if_neg a2] <;> rfl
        · rw [if_neg b2, if_neg b2]
          exact (Nat.add_assoc _ _ _).symm
    have e2 : (fun x => c x + addAt w (i + 1) l i x) = fun x => c x + w i x := by
      funext x
      unfold addAt
      rw [if_neg (by omega)] <;> rfl
    have e3 : fin (addAt w i l) tg ups (i + 1) = fin w tg ups (i + 1) := funext fun c => fin_w fun j x hj => by unfold addAt; rw [if_neg (by omega)] <;> rfl
    rw [e1, e2, e3, fin_c]
  | p :: tg, u :: ups, i, b + 1, c, h, hu, n => by
    show fin (addAt w (i + (b + 1)) l) tg ups (i + 1) (tg1 p.1 p.2 u fun x => c x + addAt w (i + (b + 1)) l i x) = fin (addAt w (i + (b + 1) + 1) l) tg ups (i + 1) (tg1 p.1 p.2 u fun x => c x + addAt w (i + (b + 1) + 1) l i x)
    have e : ∀ k, i < k → (fun x => c x + addAt w k l i x) = fun x => c x + w i x := fun k hk => by
      funext x
      unfold addAt
      rw [if_neg (by omega)] <;> rfl
    rw [e _ (by omega), e _ (by omega), show i + (b + 1) = (i + 1) + b by omega]
    exact fin_skip (Nat.lt_of_succ_lt_succ h) (Nat.succ.inj hu) n
/-- through a toggle with the line -/
theorem fin_pass {w : Nat → Cn} {l : Nat} : ∀ {tg : List (Nat × Nat)} {ups : List Bool} {i b : Nat} {c : Cn}, b < tg.length → ups.length = tg.length → (l = (tg.getD b (0, 0)).1 ∨ l = (tg.getD b (0, 0)).2) → (tg.getD b (0, 0)).1 ≠ (tg.getD b (0, 0)).2 →
    fin (addAt w (i + b) l) tg ups i c = fin (addAt w (i + b + 1) (if ups.getD b true = true then (tg.getD b (0, 0)).1 else (tg.getD b (0, 0)).2)) tg (ups.set b (!ups.getD b true)) i c
  | [], _, _, _, _, h, _, _, _ => absurd h (Nat.not_lt_zero _)
  | p :: tg, [], _, _, _, _, h, _, _ => by cases h
  | p :: tg, u :: ups, i, 0, c, h, hu, n, d => by
    have n1 : l = p.1 ∨ l = p.2 := n
    have d1 : p.1 ≠ p.2 := d
    show fin (addAt w i l) tg ups (i + 1) (tg1 p.1 p.2 u fun x => c x + addAt w i l i x) = fin (addAt w (i + 1) (if u = true then p.1 else p.2)) tg ups (i + 1) (tg1 p.1 p.2 (!u) fun x => c x + addAt w (i + 1) (if u = true then p.1 else p.2) i x)
    have e2 : ∀ z, (fun x => c x + addAt w (i + 1) z i x) = fun x => c x + w i x := fun z => by
      funext x
      unfold addAt
      rw [if_neg (by omega)] <;> rfl
    have e3 : fin (addAt w i l) tg ups (i + 1) = fin w tg ups (i + 1) := funext fun c => fin_w fun j x hj => by unfold addAt; rw [if_neg (by omega)] <;> rfl
    have es : (c p.1 + addAt w i l i p.1) + (c p.2 + addAt w i l i p.2) = (c p.1 + w i p.1) + (c p.2 + w i p.2) + 1 := by
      unfold addAt one
      simp only [if_true]
      rcases n1 with rfl | rfl
      · rw [if_pos rfl, if_neg (Ne.symm d1)]; omega
      · rw [if_neg d1, if_pos rfl]; omega
    have e1 : (tg1 p.1 p.2 u fun x => c x + addAt w i l i x) = fun x => (tg1 p.1 p.2 (!u) fun x => c x + w i x) x + one (if u = true then p.1 else p.2) x := by
      funext x
      unfold tg1
      dsimp only
      rw [es]
      generalize (c p.1 + w i p.1) + (c p.2 + w i p.2) = s
      unfold one
      by_cases b1 : x = p.1
      · rw [if_pos b1, if_pos b1]
        cases u
        · show (s + 1) / 2 = (s + 1) / 2 + (if x = p.2 then 1 else 0)
          rw [if_neg (by rw [b1]; exact d1)] <;> rfl
        · show (s + 1 + 1) / 2 = s / 2 + (if x = p.1 then 1 else 0)
          rw [if_pos b1]; omega
      · rw [if_neg b1, if_neg b1]
        by_cases b2 : x = p.2
        · rw [if_pos b2, if_pos b2]
          cases u
          · show (s + 1 + 1) / 2 = s / 2 + (if x = p.2 then 1 else 0)
            rw [if_pos b2]; omega
          · show (s + 1) / 2 = (s + 1) / 2 + (if x = p.1 then 1 else 0)
            rw [if_neg b1] <;> rfl
        · rw [if_neg b2, if_neg b2]
          have b3 : x ≠ l := fun z => by rcases n1 with e | e; exact b1 (z.trans e); exact b2 (z.trans e)
          unfold addAt one
          simp only [if_true]
          rw [if_neg b3]
          cases u
          · show c x + (w i x + 0) = c x + w i x + (if x = p.2 then 1 else 0)
            rw [if_neg b2] <;> rfl
          · show c x + (w i x + 0) = c x + w i x + (if x = p.1 then 1 else 0)
            rw [if_neg b1] <;> rfl
    rw [e1, e2, e3, fin_c]
  | p :: tg, u :: ups, i, b + 1, c, h, hu, n, d => by
    show fin (addAt w (i + (b + 1)) l) tg ups (i + 1) (tg1 p.1 p.2 u fun x => c x + addAt w (i + (b + 1)) l i x) = fin (addAt w (i + (b + 1) + 1) (if ups.getD b true = true then (tg.getD b (0, 0)).1 else (tg.getD b (0, 0)).2)) tg (ups.set b (!ups.getD b true)) (i + 1) (tg1 p.1 p.2 u fun x => c x + addAt w (i + (b + 1) + 1) (if ups.getD b true = true then (tg.getD b (0, 0)).1 else (tg.getD b (0, 0)).2) i x)
    have e : ∀ k z, i < k → (fun x => c x + addAt w k z i x) = fun x => c x + w i x := fun k z hk => by
      funext x
      unfold addAt
      rw [if_neg (by omega)] <;> rfl
    rw [e _ _ (by omega), e _ _ (by omega), show i + (b + 1) = (i + 1) + b by omega]
    exact fin_pass (Nat.lt_of_succ_lt_succ h) (Nat.succ.inj hu) n d
/-- at the end -/
theorem fin_out {w : Nat → Cn} {l : Nat} : ∀ {tg : List (Nat × Nat)} {ups : List Bool} {i : Nat} {c : Cn}, ups.length = tg.length → fin (addAt w (i + tg.length) l) tg ups i c = fun x => fin w tg ups i c x + one l x
  | [], ups, i, c, _ => by
    have e : ∀ x, c x + addAt w (i + 0) l i x = c x + w i x + one l x := fun x => by
      unfold addAt
      rw [if_pos (by omega)]; omega
    cases ups <;> exact funext e
  | p :: tg, [], _, _, h => by cases h
  | p :: tg, u :: ups, i, c, hu => by
    show fin (addAt w (i + (tg.length + 1)) l) tg ups (i + 1) (tg1 p.1 p.2 u fun x => c x + addAt w (i + (tg.length + 1)) l i x) = fun x => fin w tg ups (i + 1) (tg1 p.1 p.2 u fun x => c x + w i x) x + one l x
    have e : (fun x => c x + addAt w (i + (tg.length + 1)) l i x) = fun x => c x + w i x := by
      funext x
      unfold addAt
      rw [if_neg (by omega)] <;> rfl
    rw [e, show i + (tg.length + 1) = (i + 1) + tg.length by omega]
    exact fin_out (Nat.succ.inj hu)
theorem fin_far {w : Nat → Cn} {l : Nat} {tg : List (Nat × Nat)} {ups : List Bool} {c : Cn} (hu : ups.length = tg.length) : ∀ (d b : Nat), b + d ≤ tg.length → (∀ j, b ≤ j → j < b + d → ¬ on tg l j) → fin (addAt w b l) tg ups 0 c = fin (addAt w (b + d) l) tg ups 0 c
  | 0, _, _, _ => rfl
  | d + 1, b, h, n => by
    have s := fin_skip (w := w) (l := l) (tg := tg) (ups := ups) (i := 0) (b := b) (c := c) (by omega) hu (n b (Nat.le_refl _) (by omega))
    rw [Nat.zero_add] at s
    rw [s, fin_far hu d (b + 1) (by omega) fun j h1 h2 => n j (by omega) (by omega), show b + 1 + d = b + (d + 1) by omega]
/-! who waits where -/
def wt (sp : List Sp1) : Nat → Cn := fun i l => sp.countP fun s => decide (s = (l, some i))
theorem wt_nil : wt [] = fun _ _ => 0 := rfl
theorem wt_snoc {sp : List Sp1} {l b : Nat} : wt (sp ++ [(l, some b)]) = addAt (wt sp) b l := by
  funext j x
  unfold wt addAt one
  rw [List.countP_append, List.countP_singleton]
  by_cases h1 : j = b
  · by_cases h2 : x = l
    · subst h1 h2; simp
    · rw [if_pos h1, if_neg h2, if_neg]
      simp only [decide_eq_true_eq, Prod.mk.injEq, not_and]
      intro z
      exact absurd z.symm h2
  · rw [if_neg h1, if_neg]
    simp only [decide_eq_true_eq, Prod.mk.injEq, not_and, Option.some.injEq]
    intro _ z
    exact absurd z.symm h1
theorem wt_set0 {sp : List Sp1} {f : Nat} : ∀ {t : Nat}, t < sp.length → ∀ s : Sp1, ∀ i l, wt (sp.set t s) i l = wt (sp.set t (f, none)) i l + (if s = (l, some i) then 1 else 0) := by
  induction sp with
  | nil => intro t h; exact absurd h (Nat.not_lt_zero _)
  | cons a sp ih =>
    intro t h s i l
    cases t with
    | zero =>
      show List.countP _ (s :: sp) = List.countP _ ((f, none) :: sp) + _
      rw [List.countP_cons, List.countP_cons]
      have e0 : decide (((f, none) : Sp1) = (l, some i)) = false := decide_eq_false (by intro z; cases z)
      rw [e0]
      by_cases h1 : s = (l, some i)
      · rw [if_pos h1, decide_eq_true h1] <;> rfl
      · rw [if_neg h1, decide_eq_false h1] <;> rfl
    | succ t =>
      have := ih (Nat.lt_of_succ_lt_succ h) s i l
      unfold wt at this ⊢
      rw [List.set_cons_succ, List.set_cons_succ, List.countP_cons, List.countP_cons, this]
      omega
theorem wt_set {sp : List Sp1} {t l b f : Nat} (h : t < sp.length) : wt (sp.set t (l, some b)) = addAt (wt (sp.set t (f, none))) b l := by
  funext j x
  rw [wt_set0 (f := f) h]
  unfold addAt one
  congr 1
  by_cases h1 : j = b
  · by_cases h2 : x = l
    · subst h1 h2; simp
    · rw [if_pos h1, if_neg h2, if_neg]
      intro z
      cases z
      exact h2 rfl
  · rw [if_neg h1, if_neg]
    intro z
    cases z
    exact h1 rfl
theorem wt_self {sp : List Sp1} {t l b f : Nat} (h : sp[t]? = some (l, some b)) : wt sp = addAt (wt (sp.set t (f, none))) b l := by
  have hl := (List.getElem?_eq_some_iff.mp h).1
  rw [← wt_set hl]
  have e : sp.set t (l, some b) = sp := by
    apply List.ext_getElem? 
    intro j
    by_cases c : t = j
    · subst c; rw [List.getElem?_set_self hl, h]
    · rw [List.getElem?_set_ne c]
  rw [e]
/-- whatever else comes in, when all are out the places are filled by turns -/
structure Cnt (w m : Nat) (tg : List (Nat × Nat)) (row : List Nat) (ups : List Bool) (outs : List Nat) (sp : List Sp1) : Prop where
  lu : ups.length = tg.length
  tot : ∀ (E : Cn) (e : Nat), ((List.range w).map E).sum = e → m + e ≤ 40 → ∀ j, j < w → outs.getD j 0 + fin (wt sp) tg ups 0 E (row.getD j 0) = stp w (m + e) j
theorem sum_one {l : Nat} {E : Cn} : ∀ {w : Nat}, ((List.range w).map fun x => E x + one l x).sum = ((List.range w).map E).sum + (if l < w then 1 else 0)
  | 0 => rfl
  | w + 1 => by
    rw [List.range_succ, List.map_append, List.map_append, List.sum_append, List.sum_append, sum_one]
    show _ + (E w + one l w + 0) = _ + (E w + 0) + _
    unfold one
    by_cases h : w = l
    · subst h; rw [if_pos rfl, if_neg (by omega), if_pos (by omega)]; omega
    · rw [if_neg h]
      by_cases h2 : l < w
      · rw [if_pos h2, if_pos (by omega)]; omega
      · rw [if_neg h2, if_neg (by omega)]; omega
theorem Cnt.come {w m : Nat} {tg : List (Nat × Nat)} {row : List Nat} {ups : List Bool} {outs : List Nat} {sp : List Sp1} (h : Cnt w m tg row ups outs sp) {l : Nat} (hl : l < w) : Cnt w (m + 1) tg row ups outs (sp ++ [(l, some 0)]) := by
  refine ⟨h.lu, fun E e he hm j hj => ?_⟩
  rw [wt_snoc, ← fin_c]
  rw [h.tot _ (e + 1) (by rw [sum_one, he, if_pos hl]) (by omega) j hj, show m + (e + 1) = m + 1 + e by omega]
theorem Cnt.go {w m : Nat} {tg : List (Nat × Nat)} {row : List Nat} {ups : List Bool} {outs : List Nat} {sp : List Sp1} (h : Cnt w m tg row ups outs sp) {t l b n : Nat} (ht : sp[t]? = some (l, some b)) (hf : Fd tg l b n) (hn : n < tg.length) (hd : ∀ pr ∈ tg, pr.1 ≠ pr.2) :
    Cnt w m tg row (ups.set n (!ups.getD n true)) outs (sp.set t (if ups.getD n true = true then (tg.getD n (0, 0)).1 else (tg.getD n (0, 0)).2, some (n + 1))) := by
  refine ⟨by rw [List.length_set, h.lu], fun E e he hm j hj => ?_⟩
  have hl := (List.getElem?_eq_some_iff.mp ht).1
  rw [wt_set (f := 0) hl]
  have p := fin_pass (w := wt (sp.set t (0, none))) (l := l) (tg := tg) (ups := ups) (i := 0) (b := n) (c := E) hn h.lu (hf.yes hn) (hd _ (by rw [List.getD_eq_getElem?_getD, List.getElem?_eq_getElem hn]; exact List.getElem_mem hn))
  rw [Nat.zero_add] at p
  rw [← p]
  have f := fin_far (w := wt (sp.set t (0, none))) (l := l) (tg := tg) (ups := ups) (c := E) h.lu (n - b) b (by have := hf.lo; omega) (fun j h1 h2 => hf.no j h1 (by have := hf.lo; omega))
  rw [show b + (n - b) = n by have := hf.lo; omega] at f
  rw [← f, ← wt_self ht]
  exact h.tot E e he hm j hj
theorem Cnt.out {w m : Nat} {tg : List (Nat × Nat)} {row : List Nat} {ups : List Bool} {outs : List Nat} {sp : List Sp1} (h : Cnt w m tg row ups outs sp) {t l b f : Nat} (ht : sp[t]? = some (l, some b)) (hf : Fd tg l b tg.length) (hl : l ∈ row) (hr : row.length = w) (ho : outs.length = w) (hu : row.Nodup) :
    Cnt w m tg row ups (outs.set (row.idxOf l) (outs.getD (row.idxOf l) 0 + 1)) (sp.set t (f, none)) := by
  refine ⟨h.lu, fun E e he hm j hj => ?_⟩
  have hi := List.idxOf_lt_length_of_mem hl
  have ei := List.getElem_idxOf hi
  rw [← h.tot E e he hm j hj, wt_self (f := f) ht]
  have g := fin_far (w := wt (sp.set t (f, none))) (l := l) (tg := tg) (ups := ups) (c := E) h.lu (tg.length - b) b (by have := hf.lo; omega) (fun j h1 h2 => hf.no j h1 (by have := hf.lo; omega))
  rw [show b + (tg.length - b) = 0 + tg.length by have := hf.lo; omega, fin_out h.lu] at g
  rw [g]
  generalize hq : row.idxOf l = q at hi ei ⊢
  have e1 : row.getD j 0 = l ↔ j = q := by
    have hj' : j < row.length := by omega
    rw [List.getD_eq_getElem?_getD, List.getElem?_eq_getElem hj']
    constructor
    · intro z
      exact (List.getElem_inj hu).mp (show row[j] = row[q] from (show row[j] = l from z).trans ei.symm)
    · intro z; subst z; exact ei
  unfold one
  dsimp only
  by_cases c : j = q
  · subst c
    rw [if_pos (e1.mpr rfl)]
    have : (outs.set j (outs.getD j 0 + 1)).getD j 0 = outs.getD j 0 + 1 := by
      rw [List.getD_eq_getElem?_getD, List.getElem?_set_self (by omega)] <;> rfl
    rw [this]; omega
  · rw [if_neg fun z => c (e1.mp z)]
    have : (outs.set q (outs.getD q 0 + 1)).getD j 0 = outs.getD j 0 := by
      rw [List.getD_eq_getElem?_getD, List.getElem?_set_ne (Ne.symm c), ← List.getD_eq_getElem?_getD]
    rw [this] <;> rfl
/-! the step property, at first -/
def rt (L : List Nat) (p : Nat × Nat) : List Nat := (L.set p.1 ((L.getD p.1 0 + L.getD p.2 0 + 1) / 2)).set p.2 ((L.getD p.1 0 + L.getD p.2 0) / 2)
def run (tg : List (Nat × Nat)) (L : List Nat) : List Nat := tg.foldl rt L
theorem rt_len {L : List Nat} {p : Nat × Nat} : (rt L p).length = L.length := by unfold rt; rw [List.length_set, List.length_set]
theorem run_app {a b : List (Nat × Nat)} {L : List Nat} : run (a ++ b) L = run b (run a L) := List.foldl_append
theorem run_len : ∀ {tg : List (Nat × Nat)} {L : List Nat}, (run tg L).length = L.length
  | [], _ => rfl
  | p :: tg, L => by show (run tg (rt L p)).length = _; rw [run_len, rt_len]
theorem getD_set {L : List Nat} {i j v : Nat} (h : i < L.length) : (L.set i v).getD j 0 = if j = i then v else L.getD j 0 := by
  by_cases c : j = i
  · subst c; rw [if_pos rfl, List.getD_eq_getElem?_getD, List.getElem?_set_self h] <;> rfl
  · rw [if_neg c, List.getD_eq_getElem?_getD, List.getElem?_set_ne (Ne.symm c), ← List.getD_eq_getElem?_getD]
theorem fin_run : ∀ {tg : List (Nat × Nat)} {i : Nat} {c : Cn} {L : List Nat}, (∀ l, l < L.length → c l = L.getD l 0) → (∀ p ∈ tg, p.1 < L.length ∧ p.2 < L.length ∧ p.1 ≠ p.2) → ∀ l, l < L.length → fin (fun _ _ => 0) tg (List.replicate tg.length true) i c l = (run tg L).getD l 0
  | [], i, c, L, h, _, l, hl => h l hl
  | p :: tg, i, c, L, h, ht, l, hl => by
    obtain ⟨h1, h2, h3⟩ := ht p List.mem_cons_self
    show fin (fun _ _ => 0) tg (List.replicate tg.length true) (i + 1) (tg1 p.1 p.2 true fun x => c x + 0) l = (run tg (rt L p)).getD l 0
    refine fin_run (L := rt L p) (fun x hx => ?_) (fun q hq => by rw [rt_len]; exact ht q (List.mem_cons_of_mem _ hq)) l (by rw [rt_len]; exact hl)
    rw [rt_len] at hx
    unfold tg1 rt
    rw [getD_set (by rw [List.length_set]; exact h2), getD_set h1]
    dsimp only
    rw [h _ h1, h _ h2, h _ hx]
    by_cases c1 : x = p.1
    · subst c1
      simp [h3]
    · by_cases c2 : x = p.2
      · subst c2
        simp [Ne.symm h3]
      · simp [c1, c2]
theorem rt_left {L M : List Nat} {p : Nat × Nat} (h1 : p.1 < L.length) (h2 : p.2 < L.length) : rt (L ++ M) p = rt L p ++ M := by
  unfold rt
  have g : ∀ i, i < L.length → (L ++ M).getD i 0 = L.getD i 0 := fun i hi => by rw [List.getD_eq_getElem?_getD, List.getElem?_append_left hi, ← List.getD_eq_getElem?_getD]
  rw [g _ h1, g _ h2, List.set_append_left _ _ h1, List.set_append_left _ _ (by rw [List.length_set]; exact h2)]
theorem run_left : ∀ {tg : List (Nat × Nat)} {L M : List Nat}, (∀ p ∈ tg, p.1 < L.length ∧ p.2 < L.length) → run tg (L ++ M) = run tg L ++ M
  | [], _, _, _ => rfl
  | p :: tg, L, M, h => by
    obtain ⟨h1, h2⟩ := h p List.mem_cons_self
    show run tg (rt (L ++ M) p) = run tg (rt L p) ++ M
    rw [rt_left h1 h2, run_left fun q hq => by rw [rt_len]; exact h q (List.mem_cons_of_mem _ hq)]
def sh (d : Nat) (tg : List (Nat × Nat)) : List (Nat × Nat) := tg.map fun p => (p.1 + d, p.2 + d)
theorem rt_right {L M : List Nat} {p : Nat × Nat} : rt (L ++ M) (p.1 + L.length, p.2 + L.length) = L ++ rt M p := by
  unfold rt
  have g : ∀ i, (L ++ M).getD (i + L.length) 0 = M.getD i 0 := fun i => by rw [List.getD_eq_getElem?_getD, List.getElem?_append_right (Nat.le_add_left _ _), Nat.add_sub_cancel, ← List.getD_eq_getElem?_getD]
  dsimp only
  rw [g, g, List.set_append_right _ _ (Nat.le_add_left _ _), List.set_append_right _ _ (Nat.le_add_left _ _), Nat.add_sub_cancel, Nat.add_sub_cancel]
theorem run_right : ∀ {tg : List (Nat × Nat)} {L M : List Nat}, run (sh L.length tg) (L ++ M) = L ++ run tg M
  | [], _, _ => rfl
  | p :: tg, L, M => by
    show run (sh L.length tg) (rt (L ++ M) (p.1 + L.length, p.2 + L.length)) = L ++ run tg (rt M p)
    rw [rt_right, run_right]
/-- the merging part for four lines, for eight -/
def M2 : List (Nat × Nat) := (cl 2 (List.range 4)).1.drop 2
def M3 : List (Nat × Nat) := (cl 3 (List.range 8)).1.drop 12
def P2 (m : Nat) : List Nat := (List.range 4).map fun l => stp 4 m ((cl 2 (List.range 4)).2.idxOf l)
theorem chk2 : ∀ a, a < 41 → ∀ b, b < 41 → run M2 [(a + 1) / 2, a / 2, (b + 1) / 2, b / 2] = P2 (a + b) := by decide +kernel
theorem chk3 : ∀ a, a < 41 → ∀ b, b < 41 → ∀ j, j < 8 → (run M3 (P2 a ++ P2 b)).getD ((cl 3 (List.range 8)).2.getD j 0) 0 = stp 8 (a + b) j := by decide +kernel
theorem run2 {a b c d : Nat} (h1 : a + b < 41) (h2 : c + d < 41) : run (cl 2 (List.range 4)).1 [a, b, c, d] = P2 (a + b + (c + d)) := by
  have e : (cl 2 (List.range 4)).1 = [(0, 1), (2, 3)] ++ M2 := by decide +kernel
  rw [e, run_app]
  exact chk2 _ h1 _ h2
theorem run3 {a b c d e f g h : Nat} (h1 : a + b < 41) (h2 : c + d < 41) (h3 : e + f < 41) (h4 : g + h < 41) : run (cl 3 (List.range 8)).1 [a, b, c, d, e, f, g, h] = run M3 (P2 (a + b + (c + d)) ++ P2 (e + f + (g + h))) := by
  have z : (cl 3 (List.range 8)).1 = (cl 2 (List.range 4)).1 ++ sh 4 (cl 2 (List.range 4)).1 ++ M3 := by decide +kernel
  rw [z, run_app, run_app]
  have s1 : run (cl 2 (List.range 4)).1 ([a, b, c, d] ++ [e, f, g, h]) = run (cl 2 (List.range 4)).1 [a, b, c, d] ++ [e, f, g, h] := run_left (show ∀ p ∈ (cl 2 (List.range 4)).1, p.1 < 4 ∧ p.2 < 4 by decide +kernel)
  have s2 : run (cl 2 (List.range 4)).1 [a, b, c, d, e, f, g, h] = P2 (a + b + (c + d)) ++ [e, f, g, h] := by rw [← run2 h1 h2]; exact s1
  rw [s2]
  have s3 : run (sh (P2 (a + b + (c + d))).length (cl 2 (List.range 4)).1) (P2 (a + b + (c + d)) ++ [e, f, g, h]) = P2 (a + b + (c + d)) ++ run (cl 2 (List.range 4)).1 [e, f, g, h] := run_right
  rw [show (P2 (a + b + (c + d))).length = 4 by unfold P2; rw [List.length_map, List.length_range]] at s3
  rw [s3, run2 h3 h4]
theorem net_ok : ∀ k, k < 4 → (∀ p ∈ (cl k (List.range (2 ^ k))).1, p.1 < 2 ^ k ∧ p.2 < 2 ^ k ∧ p.1 ≠ p.2) ∧ (cl k (List.range (2 ^ k))).2.Nodup ∧ (∀ l ∈ (cl k (List.range (2 ^ k))).2, l < 2 ^ k) ∧ (cl k (List.range (2 ^ k))).2.length = 2 ^ k := by decide +kernel
theorem net_step {k : Nat} (hk : k ≤ 3) {E : Cn} {e : Nat} (he : ((List.range (2 ^ k)).map E).sum = e) (hm : e ≤ 40) {j : Nat} (hj : j < 2 ^ k) :
    fin (fun _ _ => 0) (cl k (List.range (2 ^ k))).1 (List.replicate (cl k (List.range (2 ^ k))).1.length true) 0 E ((cl k (List.range (2 ^ k))).2.getD j 0) = stp (2 ^ k) e j := by
  obtain ⟨a1, a2, a3, a4⟩ := net_ok k (by omega)
  have hl : ((List.range (2 ^ k)).map E).length = 2 ^ k := by rw [List.length_map, List.length_range]
  rw [fin_run (L := (List.range (2 ^ k)).map E) (fun l h => by rw [hl] at h; rw [List.getD_eq_getElem?_getD, List.getElem?_map, List.getElem?_range h] <;> rfl) (by rw [hl]; exact a1) _ (by rw [hl]; exact a3 _ (getD_mem (by rw [a4]; exact hj)))]
  match k, hk, he, hj with
  | 0, _, he, hj =>
    have hj0 : j = 0 := by omega
    subst hj0
    have : E 0 + 0 = e := he
    show E 0 = stp 1 e 0
    unfold stp
    omega
  | 1, _, he, hj =>
    have h1 : E 0 + (E 1 + 0) = e := he
    rcases (by omega : j = 0 ∨ j = 1) with rfl | rfl
    · show (E 0 + E 1 + 1) / 2 = stp 2 e 0
      unfold stp; omega
    · show (E 0 + E 1) / 2 = stp 2 e 1
      unfold stp; omega
  | 2, _, he, hj =>
    have h1 : E 0 + (E 1 + (E 2 + (E 3 + 0))) = e := he
    have h2 := run2 (a := E 0) (b := E 1) (c := E 2) (d := E 3) (by omega) (by omega)
    have h3 : run (cl 2 (List.range (2 ^ 2))).1 ((List.range (2 ^ 2)).map E) = P2 (E 0 + E 1 + (E 2 + E 3)) := h2
    rw [h3, show E 0 + E 1 + (E 2 + E 3) = e by omega]
    have h4 : ∀ m, m < 41 → ∀ j, j < 4 → (P2 m).getD ((cl 2 (List.range (2 ^ 2))).2.getD j 0) 0 = stp (2 ^ 2) m j := by decide +kernel
    exact h4 e (by omega) j hj
  | 3, _, he, hj =>
    have h1 : E 0 + (E 1 + (E 2 + (E 3 + (E 4 + (E 5 + (E 6 + (E 7 + 0))))))) = e := he
    have h2 := run3 (a := E 0) (b := E 1) (c := E 2) (d := E 3) (e := E 4) (f := E 5) (g := E 6) (h := E 7) (by omega) (by omega) (by omega) (by omega)
    have h3 : run (cl 3 (List.range (2 ^ 3))).1 ((List.range (2 ^ 3)).map E) = _ := h2
    rw [h3]
    have h4 := chk3 (E 0 + E 1 + (E 2 + E 3)) (by omega) (E 4 + E 5 + (E 6 + E 7)) (by omega) j hj
    rw [show E 0 + E 1 + (E 2 + E 3) + (E 4 + E 5 + (E 6 + E 7)) = e by omega] at h4
    exact h4
theorem Cnt.init {k : Nat} (hk : k ≤ 3) : Cnt (2 ^ k) 0 (cl k (List.range (2 ^ k))).1 (cl k (List.range (2 ^ k))).2 (List.replicate (cl k (List.range (2 ^ k))).1.length true) (List.replicate (2 ^ k) 0) [] := by
  refine ⟨List.length_replicate, fun E e he hm j hj => ?_⟩
  have e0 : (List.replicate (2 ^ k) 0).getD j 0 = 0 := by rw [List.getD_eq_getElem?_getD, List.getElem?_replicate, if_pos hj] <;> rfl
  rw [e0, Nat.zero_add, Nat.zero_add]
  exact net_step hk he (by omega) hj
/-- how many toggles are ahead -/
def dp : List (Nat × Nat) → Nat → Nat
  | [], _ => 0
  | p :: r, l => if l = p.1 ∨ l = p.2 then dp r p.1 + 1 else dp r l
def Bal (tg : List (Nat × Nat)) : Prop := ∀ b, b < tg.length → dp (tg.drop (b + 1)) (tg.getD b (0, 0)).1 = dp (tg.drop (b + 1)) (tg.getD b (0, 0)).2
theorem net_bal : ∀ k, k < 4 → (∀ b, b < (cl k (List.range (2 ^ k))).1.length → dp ((cl k (List.range (2 ^ k))).1.drop (b + 1)) ((cl k (List.range (2 ^ k))).1.getD b (0, 0)).1 = dp ((cl k (List.range (2 ^ k))).1.drop (b + 1)) ((cl k (List.range (2 ^ k))).1.getD b (0, 0)).2) ∧ ∀ l, l < 2 ^ k → dp (cl k (List.range (2 ^ k))).1 l = k * (k + 1) / 2 := by decide +kernel
theorem drop_getD {tg : List (Nat × Nat)} {b : Nat} (h : b < tg.length) : tg.drop b = tg.getD b (0, 0) :: tg.drop (b + 1) := by
  rw [List.drop_eq_getElem_cons h, List.getD_eq_getElem?_getD, List.getElem?_eq_getElem h] <;> rfl
theorem dp_far {tg : List (Nat × Nat)} {l : Nat} : ∀ (d b : Nat), b + d ≤ tg.length → (∀ j, b ≤ j → j < b + d → ¬ on tg l j) → dp (tg.drop b) l = dp (tg.drop (b + d)) l
  | 0, _, _, _ => rfl
  | d + 1, b, h, n => by
    rw [drop_getD (by omega)]
    show (if l = _ ∨ l = _ then _ else dp (tg.drop (b + 1)) l) = _
    rw [if_neg (show ¬ (l = _ ∨ l = _) from n b (Nat.le_refl _) (by omega)), dp_far d (b + 1) (by omega) fun j h1 h2 => n j (by omega) (by omega), show b + 1 + d = b + (d + 1) by omega]
theorem dp_go {tg : List (Nat × Nat)} (hb : Bal tg) {l b n : Nat} (hf : Fd tg l b n) (hn : n < tg.length) (u : Bool) : dp (tg.drop b) l = dp (tg.drop (n + 1)) (if u = true then (tg.getD n (0, 0)).1 else (tg.getD n (0, 0)).2) + 1 := by
  have h1 := hf.lo
  rw [dp_far (n - b) b (by omega) (fun j a1 a2 => hf.no j a1 (by omega)), show b + (n - b) = n by omega, drop_getD hn]
  show (if l = _ ∨ l = _ then _ else _) = _
  rw [if_pos (show l = _ ∨ l = _ from hf.yes hn)]
  cases u
  · exact congrArg (· + 1) (hb n hn)
  · rfl
theorem dp_out {tg : List (Nat × Nat)} {l b : Nat} (hf : Fd tg l b tg.length) : dp (tg.drop b) l = 0 := by
  have h1 := hf.lo
  rw [dp_far (tg.length - b) b (by omega) (fun j a1 a2 => hf.no j a1 (by omega)), show b + (tg.length - b) = tg.length by omega, List.drop_length] <;> rfl
/-! ### the state of a counter: what holds at all times -/
structure Nt (k : Nat) (tg : List (Nat × Nat)) (row : List Nat) : Prop where
  k3 : k ≤ 3
  d : ∀ pr ∈ tg, pr.1 ≠ pr.2
  mem : ∀ pr ∈ tg, pr.1 ∈ row ∧ pr.2 ∈ row
  rl : row.length = 2 ^ k
  rn : row.Nodup
  all : ∀ l, l < 2 ^ k → l ∈ row
  bal : Bal tg
  d0 : ∀ l, l < 2 ^ k → dp tg l = k * (k + 1) / 2
  tl : tg.length ≤ 100
theorem nt_all : ∀ k, k < 4 → (∀ l, l < 2 ^ k → l ∈ (cl k (List.range (2 ^ k))).2) ∧ (∀ pr ∈ (cl k (List.range (2 ^ k))).1, pr.1 ∈ (cl k (List.range (2 ^ k))).2 ∧ pr.2 ∈ (cl k (List.range (2 ^ k))).2) ∧ (cl k (List.range (2 ^ k))).1.length ≤ 100 := by decide +kernel
theorem nt_of {k : Nat} (hk : k ≤ 3) : Nt k (cl k (List.range (2 ^ k))).1 (cl k (List.range (2 ^ k))).2 := by
  obtain ⟨a1, a2, a3⟩ := nt_all k (by omega)
  obtain ⟨b1, b2, b3, b4⟩ := net_ok k (by omega)
  obtain ⟨c1, c2⟩ := net_bal k (by omega)
  exact ⟨hk, fun pr h => (b1 pr h).2.2, a2, b4, b2, a1, c1, c2, a3⟩
structure Iv (k : Nat) (tg : List (Nat × Nat)) (row : List Nat) (ups : List Bool) (outs : List Nat) (sp : List Sp1) : Prop where
  cnt : Cnt (2 ^ k) sp.length tg row ups outs sp
  lo : outs.length = 2 ^ k
  le : sp.length ≤ 40
  nd : (tolds sp).Nodup
  tv : ∀ v ∈ tolds sp, v / 2 ^ k < outs.getD (v % 2 ^ k) 0
  cv : ∀ j, j < 2 ^ k → (tolds sp).countP (fun v => decide (v % 2 ^ k = j)) = outs.getD j 0
  sm : outs.sum = (tolds sp).length
  ok : ∀ s ∈ sp, ∀ b, s.2 = some b → s.1 ∈ row ∧ b ≤ tg.length ∧ dp (tg.drop b) s.1 ≤ 6
theorem tolds_some : ∀ {sp : List Sp1} {t l b z b' : Nat}, sp[t]? = some (l, some b) → tolds (sp.set t (z, some b')) = tolds sp
  | [], _, _, _, _, _, h => by simp at h
  | s :: sp, 0, l, b, z, b', h => by
    cases (Option.some.inj h)
    rfl
  | s :: sp, t + 1, l, b, z, b', h => by
    have ih := tolds_some (sp := sp) (z := z) (b' := b') (show sp[t]? = some (l, some b) by simpa using h)
    unfold tolds at ih ⊢
    rw [List.set_cons_succ, List.filterMap_cons, List.filterMap_cons, ih]
theorem tolds_none : ∀ {sp : List Sp1} {t l b f : Nat}, sp[t]? = some (l, some b) → (tolds (sp.set t (f, none))).Perm (f :: tolds sp)
  | [], _, _, _, _, h => by simp at h
  | s :: sp, 0, l, b, f, h => by
    cases (Option.some.inj h)
    exact List.Perm.refl _
  | s :: sp, t + 1, l, b, f, h => by
    have ih := tolds_none (sp := sp) (f := f) (show sp[t]? = some (l, some b) by simpa using h)
    obtain ⟨x, y⟩ := s
    cases y with
    | some y =>
      show (tolds (sp.set t (f, none))).Perm (f :: tolds sp)
      exact ih
    | none =>
      show (x :: tolds (sp.set t (f, none))).Perm (f :: x :: tolds sp)
      exact (List.Perm.cons x ih).trans (List.Perm.swap f x _)
theorem sum_set : ∀ {xs : List Nat} {j : Nat}, j < xs.length → (xs.set j (xs.getD j 0 + 1)).sum = xs.sum + 1
  | [], _, h => absurd h (Nat.not_lt_zero _)
  | x :: xs, 0, _ => by
    show x + 1 + xs.sum = x + xs.sum + 1
    omega
  | x :: xs, j + 1, h => by
    show x + (xs.set j (xs.getD j 0 + 1)).sum = x + xs.sum + 1
    rw [sum_set (Nat.lt_of_succ_lt_succ h)]; omega
theorem iN_sum : ∀ {xs : List Nat}, (iN xs).sum = ((xs.sum : Nat) : Int)
  | [] => rfl
  | x :: xs => by
    show (x : Int) + (iN xs).sum = ((x + xs.sum : Nat) : Int)
    rw [iN_sum]; omega
theorem Iv.init {k : Nat} (hk : k ≤ 3) : Iv k (cl k (List.range (2 ^ k))).1 (cl k (List.range (2 ^ k))).2 (List.replicate (cl k (List.range (2 ^ k))).1.length true) (List.replicate (2 ^ k) 0) [] := by
  refine ⟨Cnt.init hk, List.length_replicate, by decide, List.nodup_nil, fun v hv => absurd hv List.not_mem_nil, fun j hj => ?_, ?_, fun s hs => absurd hs List.not_mem_nil⟩
  · rw [List.getD_eq_getElem?_getD, List.getElem?_replicate, if_pos hj] <;> rfl
  · have : ∀ n, (List.replicate n 0).sum = 0 := fun n => by
      induction n with
      | zero => rfl
      | succ n ih => rw [List.replicate_succ, List.sum_cons, ih]
    exact this _
section
variable {k : Nat} {tg : List (Nat × Nat)} {row : List Nat} {ups : List Bool} {outs : List Nat} {sp : List Sp1}
theorem k6 (hk : k ≤ 3) : k * (k + 1) / 2 ≤ 6 := by
  match k, hk with
  | 0, _ => decide
  | 1, _ => decide
  | 2, _ => decide
  | 3, _ => decide
theorem Iv.come (N : Nt k tg row) (h : Iv k tg row ups outs sp) {l : Nat} (hl : l < 2 ^ k) (hs : sp.length < 40) : Iv k tg row ups outs (sp ++ [(l, some 0)]) := by
  have et : tolds (sp ++ [(l, some 0)]) = tolds sp := by rw [tolds_snoc, if_neg (by intro z; cases z), List.append_nil]
  refine ⟨?_, h.lo, by rw [List.length_append]; exact hs, by rw [et]; exact h.nd, by rw [et]; exact h.tv, by rw [et]; exact h.cv, by rw [et]; exact h.sm, fun s hm b e => ?_⟩
  · rw [List.length_append]
    exact h.cnt.come hl
  · rcases List.mem_append.mp hm with z | z
    · exact h.ok s z b e
    · rw [List.mem_singleton.mp z] at e ⊢
      cases e
      exact ⟨N.all l hl, Nat.zero_le _, by rw [List.drop_zero]; show dp tg l ≤ 6; rw [N.d0 l hl]; exact k6 N.k3⟩
theorem Iv.go (N : Nt k tg row) (h : Iv k tg row ups outs sp) {t l b n : Nat} (ht : sp[t]? = some (l, some b)) (hf : Fd tg l b n) (hn : n < tg.length) :
    Iv k tg row (ups.set n (!ups.getD n true)) outs (sp.set t (if ups.getD n true = true then (tg.getD n (0, 0)).1 else (tg.getD n (0, 0)).2, some (n + 1))) := by
  have et := tolds_some (z := if ups.getD n true = true then (tg.getD n (0, 0)).1 else (tg.getD n (0, 0)).2) (b' := n + 1) ht
  refine ⟨?_, h.lo, by rw [List.length_set]; exact h.le, by rw [et]; exact h.nd, by rw [et]; exact h.tv, by rw [et]; exact h.cv, by rw [et]; exact h.sm, fun s hm b' e => ?_⟩
  · rw [List.length_set]
    exact h.cnt.go ht hf hn N.d
  · rcases List.mem_or_eq_of_mem_set hm with z | z
    · exact h.ok s z b' e
    · subst z
      cases e
      have hm : tg.getD n (0, 0) ∈ tg := by
        rw [List.getD_eq_getElem?_getD, List.getElem?_eq_getElem hn]
        exact List.getElem_mem hn
      have h6 := (h.ok _ (List.mem_of_getElem? ht) b rfl).2.2
      have g := dp_go N.bal hf hn (ups.getD n true)
      refine ⟨?_, hn, ?_⟩
      · show (if ups.getD n true = true then (tg.getD n (0, 0)).1 else (tg.getD n (0, 0)).2) ∈ row
        split
        · exact (N.mem _ hm).1
        · exact (N.mem _ hm).2
      · show dp (tg.drop (n + 1)) (if ups.getD n true = true then (tg.getD n (0, 0)).1 else (tg.getD n (0, 0)).2) ≤ 6
        have h7 : dp (tg.drop b) l ≤ 6 := h6
        omega
theorem Iv.out (N : Nt k tg row) (h : Iv k tg row ups outs sp) {t l b j : Nat} (ht : sp[t]? = some (l, some b)) (hf : Fd tg l b tg.length) (hj : row.idxOf l = j) :
    Iv k tg row ups (outs.set j (outs.getD j 0 + 1)) (sp.set t (outs.getD j 0 * row.length + j, none)) := by
  have hl := (h.ok _ (List.mem_of_getElem? ht) b rfl).1
  have hi : j < 2 ^ k := by rw [← hj, ← N.rl]; exact List.idxOf_lt_length_of_mem hl
  have hw := Nat.two_pow_pos k
  rw [N.rl]
  have pm := tolds_none (f := outs.getD j 0 * 2 ^ k + j) ht
  have f1 : (outs.getD j 0 * 2 ^ k + j) % 2 ^ k = j := by rw [Nat.mul_comm, Nat.mul_add_mod, Nat.mod_eq_of_lt hi]
  have f2 : (outs.getD j 0 * 2 ^ k + j) / 2 ^ k = outs.getD j 0 := by rw [Nat.mul_comm, Nat.mul_add_div hw, Nat.div_eq_of_lt hi, Nat.add_zero]
  have gs : ∀ i, (outs.set j (outs.getD j 0 + 1)).getD i 0 = if i = j then outs.getD j 0 + 1 else outs.getD i 0 := fun i => getD_set (by rw [h.lo]; exact hi)
  generalize hfv : outs.getD j 0 * 2 ^ k + j = f at pm f1 f2 ⊢
  refine ⟨?_, by rw [List.length_set]; exact h.lo, by rw [List.length_set]; exact h.le, ?_, fun v hv => ?_, fun i hi2 => ?_, ?_, fun s hm b' e => ?_⟩
  · rw [List.length_set, ← hj]
    have := h.cnt.out (f := f) ht hf hl N.rl h.lo N.rn
    exact this
  · refine pm.nodup_iff.mpr (List.nodup_cons.mpr ⟨fun m => ?_, h.nd⟩)
    have := h.tv f m
    rw [f1, f2] at this
    exact absurd this (Nat.lt_irrefl _)
  · rw [gs]
    rcases List.mem_cons.mp (pm.mem_iff.mp hv) with z | z
    · rw [z, f1, f2, if_pos rfl]; exact Nat.lt_succ_self _
    · have := h.tv v z
      split
      · rename_i e; rw [e] at this; omega
      · exact this
  · rw [pm.countP_eq, List.countP_cons, h.cv i hi2, gs, f1]
    by_cases c : i = j
    · subst c
      rw [if_pos rfl, decide_eq_true rfl] <;> rfl
    · rw [if_neg c, decide_eq_false (Ne.symm c)] <;> rfl
  · rw [pm.length_eq, List.length_cons, sum_set (by rw [h.lo]; exact hi), h.sm]
  · rcases List.mem_or_eq_of_mem_set hm with z | z
    · exact h.ok s z b' e
    · rw [z] at e; cases e
theorem Iv.lt (h : Iv k tg row ups outs sp) {v : Nat} (hv : v ∈ tolds sp) : v < sp.length := by
  have hw := Nat.two_pow_pos k
  have h1 := h.tv v hv
  have hj : v % 2 ^ k < 2 ^ k := Nat.mod_lt _ hw
  have z : ∀ n, ((List.range n).map fun _ => 0).sum = 0 := fun n => by
    induction n with
    | zero => rfl
    | succ n ih => rw [List.range_succ, List.map_append, List.sum_append, ih] <;> rfl
  have h2 := h.cnt.tot (fun _ => 0) 0 (z _) (by have := h.le; omega) _ hj
  have h3 : v / 2 ^ k + 1 ≤ stp (2 ^ k) sp.length (v % 2 ^ k) := by
    rw [Nat.add_zero] at h2
    omega
  unfold stp at h3
  have h4 := (Nat.le_div_iff_mul_le hw).mp h3
  have h5 := Nat.div_add_mod v (2 ^ k)
  rw [Nat.add_mul, Nat.one_mul, Nat.mul_comm] at h4
  omega
theorem fin_zero : ∀ {tg : List (Nat × Nat)} {ups : List Bool} {i : Nat} {c : Cn}, (∀ l, c l = 0) → ∀ l, fin (fun _ _ => 0) tg ups i c l = 0
  | [], ups, i, c, h, l => by cases ups <;> exact h l
  | p :: tg, [], i, c, h, l => h l
  | p :: tg, u :: ups, i, c, h, l => by
    show fin (fun _ _ => 0) tg ups (i + 1) (tg1 p.1 p.2 u fun x => c x + 0) l = 0
    refine fin_zero (fun x => ?_) l
    unfold tg1
    dsimp only
    rw [h, h, h]
    split
    · split <;> rfl
    · split
      · split <;> rfl
      · rfl
/-- when all are out -/
theorem Iv.full (h : Iv k tg row ups outs sp) (hn : ∀ s ∈ sp, s.2 = none) : (tolds sp).length = sp.length ∧ ∀ j, j < 2 ^ k → outs.getD j 0 = stp (2 ^ k) sp.length j := by
  have e : ∀ {l : List Sp1}, (∀ s ∈ l, s.2 = none) → (tolds l).length = l.length := by
    intro l
    induction l with
    | nil => intro _; rfl
    | cons s l ih =>
      intro hl
      obtain ⟨x, y⟩ := s
      obtain rfl : y = none := hl _ List.mem_cons_self
      show (tolds l).length + 1 = l.length + 1
      rw [ih fun s hs => hl s (List.mem_cons_of_mem _ hs)]
  refine ⟨e hn, fun j hj => ?_⟩
  have w0 : wt sp = fun _ _ => 0 := by
    funext i l
    unfold wt
    rw [List.countP_eq_zero]
    intro s hs
    have := hn s hs
    simp only [decide_eq_true_eq]
    intro z
    rw [z] at this
    cases this
  have z : ∀ n, ((List.range n).map fun _ => 0).sum = 0 := fun n => by
    induction n with
    | zero => rfl
    | succ n ih => rw [List.range_succ, List.map_append, List.sum_append, ih] <;> rfl
  have h2 := h.cnt.tot (fun _ => 0) 0 (z _) (by have := h.le; omega) j hj
  rw [w0, fin_zero (fun _ => rfl), Nat.add_zero, Nat.add_zero] at h2
  exact h2
end
/-! sorted lists -/
theorem sorted_uniq {xs ys : List Int} (p : xs.Perm ys) (hx : xs.Pairwise (· ≤ ·)) (hy : ys.Pairwise (· ≤ ·)) : xs = ys :=
  List.Perm.eq_of_pairwise (le := (· ≤ ·)) (fun a b _ _ h1 h2 => Int.le_antisymm h1 h2) hx hy p
theorem sorted_strict : ∀ {xs : List Int}, xs.Pairwise (· ≤ ·) → xs.Nodup → xs.Pairwise (· < ·)
  | [], _, _ => .nil
  | x :: xs, h, n => by
    rw [List.pairwise_cons] at h ⊢
    rw [List.nodup_cons] at n
    exact ⟨fun y hy => by have := h.1 y hy; have : x ≠ y := fun z => n.1 (z ▸ hy); omega, sorted_strict h.2 n.2⟩
theorem iN_nodup {xs : List Nat} (h : xs.Nodup) : (iN xs).Nodup := by
  unfold iN
  rw [List.nodup_iff_pairwise_ne] at h ⊢
  rw [List.pairwise_map]
  exact h.imp fun z e => z (Int.ofNat.inj e)
/-- all numbers below n, each once -/
theorem sorted_range {xs : List Int} {n : Nat} (h : xs.Pairwise (· < ·)) (hl : xs.length = n) (hb : ∀ x ∈ xs, 0 ≤ x ∧ x < n) : xs = iN (List.range n) := by
  have lo : ∀ (i : Nat) (hi : i < xs.length), (i : Int) ≤ xs[i] := by
    intro i
    induction i with
    | zero => intro hi; exact (hb _ (List.getElem_mem hi)).1
    | succ i ih =>
      intro hi
      have h1 := ih (by omega)
      have h2 := List.pairwise_iff_getElem.mp h i (i + 1) (by omega) hi (by omega)
      omega
  have up : ∀ (d i : Nat) (hi : i < xs.length), i + d + 1 = xs.length → xs[i] ≤ (i : Int) := by
    intro d
    induction d with
    | zero => intro i hi e; have := (hb _ (List.getElem_mem hi)).2; omega
    | succ d ih =>
      intro i hi e
      have h1 := ih (i + 1) (by omega) (by omega)
      have h2 := List.pairwise_iff_getElem.mp h i (i + 1) hi (by omega) (by omega)
      omega
  apply List.ext_getElem?
  intro i
  unfold iN
  by_cases hi : i < xs.length
  · have a := lo i hi
    have b := up (xs.length - i - 1) i hi (by omega)
    rw [List.getElem?_eq_getElem hi, List.getElem?_map, List.getElem?_range (by omega)]
    show some xs[i] = some (i : Int)
    congr 1
    omega
  · rw [List.getElem?_eq_none (by omega), List.getElem?_eq_none (by rw [List.length_map, List.length_range]; omega)]
def fV (sp : List Sp1) : List V := sp.map fun s => match s.2 with | none => V.int (s.1 : Nat) | some _ => V.non
theorem fV_len {sp : List Sp1} : (fV sp).length = sp.length := by unfold fV; rw [List.length_map]
theorem fV_at {sp : List Sp1} {i : Nat} {s : Sp1} (h : sp[i]? = some s) : (fV sp)[i]? = some (match s.2 with | none => V.int (s.1 : Nat) | some _ => V.non) := by unfold fV; rw [List.getElem?_map, h] <;> rfl
/-- all but these stays -/
def Kp (X : List Addr) (H H' : Hp) : Prop := ∀ a o, a ∉ X → H a = some o → H' a = some o
theorem Kp.refl {X : List Addr} {H : Hp} : Kp X H H := fun _ _ _ h => h
theorem Kp.trans {X : List Addr} {H H1 H2 : Hp} (a : Kp X H H1) (b : Kp X H1 H2) : Kp X H H2 := fun x o n h => b x o n (a x o n h)
theorem kp_but {X : List Addr} {D : Addr} {H H' : Hp} (b : But D H H') (m : D ∈ X) : Kp X H H' := fun x o n h => b x o (fun z => n (z ▸ m)) h
theorem kp_same {X : List Addr} {H H' : Hp} (b : Same H H') : Kp X H H' := fun x o _ h => b x o h
theorem kp_bt {X : List Addr} {c : Ct} {H H' : Hp} (b : Bt c H H') (m : ∀ a ∈ [c.U, c.M, c.A], a ∈ X) : Kp X H H' := fun x o n h => b x o (fun z => n (z ▸ m _ (by simp))) (fun z => n (z ▸ m _ (by simp))) (fun z => n (z ▸ m _ (by simp))) h
theorem same_kp {X : List Addr} {H H1 H2 : Hp} (a : Same H H1) (k : Kp X H1 H2) (n : ∀ x ∈ X, H x = none) : Same H H2 := fun x o e => k x o (fun m => by rw [n x m] at e; cases e) (a x o e)
theorem ifS_split {t : TT} {A B : TS} {D : Ends} {σ : L2.St} {H : Hp} (R : Bool → Hp → Prop) (walk : ∀ Q' : Bool → Hp → Prop, (∀ c H', R c H' → Q' c H') → t σ H Q') (hA : ∀ H', R true H' → A D σ H') (hB : ∀ H', R false H' → B D σ H') : tIfS t A B D σ H :=
  walk _ fun c H' r => by
    cases c
    · exact iteF (hB H' r)
    · rw [if_pos rfl]; exact hA H' r
structure Wf (C : Addr) (H : Hp) (pot p : Addr) (c : Ct) (F : Addr) (k : Nat) (tg : List (Nat × Nat)) (row : List Nat) (ups : List Bool) (outs : List Nat) (sp : List Sp1) : Prop where
  po : PotAt H pot
  ct : CtAt C H p c tg row ups outs sp
  iv : Iv k tg row ups outs sp
  nt : Nt k tg row
  fo : H F = some (.lst (fV sp))
  pf : pot ≠ F
  nc : ∀ a ∈ [pot, F], a ∉ [c.P, c.U, c.R, c.M, c.A]
section
variable {C : Addr} {H H' : Hp} {pot p : Addr} {c : Ct} {F : Addr} {k : Nat} {tg : List (Nat × Nat)} {row : List Nat} {ups ups' : List Bool} {outs outs' : List Nat} {sp sp' : List Sp1}
theorem Wf.same (h : Wf C H pot p c F k tg row ups outs sp) (e : Same H H') : Wf C H' pot p c F k tg row ups outs sp := ⟨h.po.same e, h.ct.same e, h.iv, h.nt, e _ _ h.fo, h.pf, h.nc⟩
theorem Wf.draw (h : Wf C H pot p c F k tg row ups outs sp) (b : But pot H H') (q : PotAt H' pot) : Wf C H' pot p c F k tg row ups outs sp := by
  obtain ⟨a1, a2, hp, _⟩ := h.po
  exact ⟨q, h.ct.but b hp (h.nc _ (by simp)), h.iv, h.nt, b _ _ (Ne.symm h.pf) h.fo, h.pf, h.nc⟩
theorem Wf.far (h : Wf C H pot p c F k tg row ups outs sp) : ∀ a ∈ [pot, F], a ≠ c.U ∧ a ≠ c.M ∧ a ≠ c.A := by
  intro a ha
  have n := h.nc a ha
  simp only [List.mem_cons, List.not_mem_nil, or_false, not_or] at n
  exact ⟨n.2.1, n.2.2.2.1, n.2.2.2.2⟩
end
section
variable {P : Program} {w : World} {K : PySem.W.Frag} {mg : Str → Option Value} {base : Heap} (B : Bl K mg)
include B
/-! ### the program: small looks -/
def spIsWhole : Sp := fun vs H Q _ => ∃ i, vs = [.int i] ∧ Q (.bl true) H
theorem k_is_whole (D : Df K mg "is_whole" s_is_whole ["thing"]) : Dn P w K mg base 1 "is_whole" ["thing"] spIsWhole := by
  refine D.ok fun f fd F => okG0 F sc_is_whole (fun vs H Q E h => ?_) (fun cdv A outer s H vs Q E hr h => ⟨_, (pss_one (ps_ret (pe_and (pe_callB (kk (K := K) (F := rIsi) (P := CallR _ _) call_isi) (by rfl) B.isinstance_ (by decide +kernel) (pa_cons (pv 0) (pa_cons (pe_bltn (v := .ty "int") (u := .type "int") (by rfl) B.int_ (by decide +kernel) rfl) pa_nil))) (pe_one (pe_not (pe_callB (kk (K := K) (F := rIsi) (P := CallR _ _) call_isi) (by rfl) B.isinstance_ (by decide +kernel) (pa_cons (pv 0) (pa_cons (pe_bltn (v := .ty "bool") (u := .type "bool") (by rfl) B.bool_ (by decide +kernel) rfl) pa_nil)))))))), ?_⟩)
  · obtain ⟨i, rfl, _⟩ := h; rfl
  · obtain ⟨i, rfl, q⟩ := h
    refine ⟨_, rfl, _, _, _, _, _, rfl, .ty _, .base (.int _), kit_ty (b := "int") (r := true) (by decide +kernel), _, rfl, iteT ?_⟩
    refine ⟨_, rfl, _, _, _, _, _, rfl, .ty _, .base (.int _), kit_ty (b := "bool") (r := false) (by decide +kernel), _, rfl, ?_⟩
    exact q
def spIsWithin : Sp := fun vs H Q _ => ∃ i a b : Int, vs = [.int i, .int a, .int b] ∧ a ≤ i ∧ i ≤ b ∧ Q (.bl true) H
theorem k_is_within (D : Df K mg "is_within" s_is_within ["thing", "least", "most"]) (D_is_whole : Dn P w K mg base 1 "is_whole" ["thing"] spIsWhole) : Dn P w K mg base 2 "is_within" ["thing", "least", "most"] spIsWithin := by
  refine D.ok fun f fd F => okG0 F sc_is_within (fun vs H Q E h => ?_) (fun cdv A outer s H vs Q E hr h => ⟨_, (pss_one (ps_ret (pe_and (pe_cD D_is_whole (hr.less (by decide)) rfl (pa_cons (pv 0) pa_nil)) (pe_one (pe_chain op_le op_le (pv 1) (pv 0) (pv 2)))))), ?_⟩)
  · obtain ⟨i, a, b, rfl, _⟩ := h; rfl
  · obtain ⟨i, a, b, rfl, h1, h2, q⟩ := h
    refine ⟨_, rfl, i, rfl, _, rfl, iteT ?_⟩
    refine ⟨_, rfl, _, rfl, _, _, rfl, rfl, _, rfl, ifT (decide_eq_true h1) ⟨_, rfl, _, _, rfl, rfl, ?_⟩⟩
    exact (show Q (.bl (decide (i ≤ b))) H by rw [decide_eq_true h2]; exact q)
def spWantNet : Sp := fun vs H Q _ => ∃ i d : Int, vs = [.int i, .int d] ∧ 0 ≤ i ∧ i ≤ d ∧ Q .non H
theorem k_want_net (D : Dfd K mg "want_net" s_want_net ["k", "deepest"] []) (D_is_within : Dn P w K mg base 2 "is_within" ["thing", "least", "most"] spIsWithin) : DnD P w K mg base 3 "want_net" ["k", "deepest"] [] spWantNet := by
  refine D.ok fun f fd F => okG0A F sc_want_net (fun vs H Q E h => ?_) (fun cdv A outer s H vs Q E hr h => ⟨_, (pss_one (ps_if (pt_not (pt_val (pe_cD D_is_within (hr.less (by decide)) rfl (pa_cons (pv 0) (pa_cons pe_int (pa_cons (pv 1) pa_nil))))))
     (pss_one ps_never)
     pss_nil)), ?_⟩)
  · obtain ⟨i, d, rfl, _⟩ := h; rfl
  · obtain ⟨i, d, rfl, h1, h2, q⟩ := h
    exact ⟨_, rfl, _, rfl, i, 0, d, rfl, h1, h2, _, rfl, iteF q⟩
omit B in
theorem shl_eq (k : Nat) : (1 * 2 ^ ((k : Int)).toNat : Int) = ((2 ^ k : Nat) : Int) := by rw [Int.toNat_natCast, Int.one_mul]; push_cast; rfl
omit B in
theorem shr_eq (k m : Nat) : ((m : Int) / 2 ^ ((k : Int)).toNat : Int) = ((m / 2 ^ k : Nat) : Int) := by rw [Int.toNat_natCast]; push_cast; rfl
omit B in
theorem mul_eq (k m : Nat) : ((m : Int) * 2 ^ ((k : Int)).toNat : Int) = ((m * 2 ^ k : Nat) : Int) := by rw [Int.toNat_natCast]; push_cast; rfl
omit B in
theorem xor_eq (a b : Nat) : Builtin.bitXor (a : Int) (b : Int) = ((a ^^^ b : Nat) : Int) := by rw [Bits.bitXor_pp (by omega) (by omega), Int.toNat_natCast, Int.toNat_natCast]
omit B in
theorem bits_one : Builtin.Int.intBits 1 ≤ 10 := by decide +kernel
omit B in
theorem shl_ok {n : Nat} (h : n ≤ 1000) : CShl 1 (n : Int) := by
  have := bits_one
  exact ⟨by omega, by omega⟩
omit B in
theorem shl_mid {i j : Int} (h : i.natAbs < 2 ^ 400) (h0 : 0 ≤ j) (h1 : j ≤ 1000) : CShl i j := by
  refine ⟨h0, ?_⟩
  have h2 := log_lt (n := 400) (by decide) h
  unfold Builtin.Int.intBits
  split <;> omega
omit B in
theorem mask_eq (k m : Nat) : Builtin.bitAnd (m : Int) (1 * 2 ^ ((k : Int)).toNat - 1) = ((m % 2 ^ k : Nat) : Int) := by
  rw [Int.toNat_natCast, Int.one_mul, Bits.bitAnd_mask k (by omega)]
  push_cast; rfl
/-! ### the program: the counting net -/
def spMerged (K : PySem.W.Frag) (n : Nat) : Sp := fun vs H Q _ => ∃ (o1 o2 : Addr) (a b : List Nat) (m : Nat), vs = [.ref o1, .ref o2] ∧ H o1 = some (.lst ((iN a).map V.int)) ∧ H o2 = some (.lst ((iN b).map V.int)) ∧ a.length = 2 ^ m ∧ b.length = 2 ^ m ∧ m < n ∧ m ≤ 3 ∧ ∀ T H', Same H H' → MgAt H' T (mgd m a b) → FrT H H' T → Q (.ref T) H'
theorem merged_z (vs : List V) (H : Hp) (Q : VK) (E : XK) : ¬ spMerged K 0 vs H Q E := by
  rintro ⟨o1, o2, a, b, m, _, _, _, _, _, h, _⟩
  omega
theorem k_merged_rec (D : Df K mg "merged" s_merged ["one", "other"]) : ∀ n : Nat, Dn P w K mg base (1 + n) "merged" ["one", "other"] ((spMerged K) n) := by
  intro n
  induction n with
  | zero => exact D.ok fun f fd F => ⟨fun vs H Q E h => (merged_z B vs H Q E h).elim, fun _ _ _ _ h => (merged_z B _ _ _ _ h).elim⟩
  | succ n D_merged =>
    refine D.ok fun f fd F => okG0 (k := 1 + n) F sc_merged (fun vs H Q E h => ?_) (fun cdv A outer s H vs Q E hr h => ⟨_, (pss_cons (ps_if (pt_cmpR op_eq (pe_callB (lenK (K := K)) (by rfl) B.len_ (by decide +kernel) (pa_cons (pv 0) pa_nil)) pe_int (nomark _))
      (pss_one (ps_ret (pe_tup (pa_cons (pe_lst (pa_cons (pe_tup (pa_cons (pe_ix (kk (K := K) (F := rIxL) (P := IxR _) ix_list) (pv 0) pe_int (fun _ _ => rfl)) (pa_cons (pe_ix (kk (K := K) (F := rIxL) (P := IxR _) ix_list) (pv 1) pe_int (fun _ _ => rfl)) pa_nil))) pa_nil)) (pa_cons (pe_lst (pa_cons (pe_ix (kk (K := K) (F := rIxL) (P := IxR _) ix_list) (pv 0) pe_int (fun _ _ => rfl)) (pa_cons (pe_ix (kk (K := K) (F := rIxL) (P := IxR _) ix_list) (pv 1) pe_int (fun _ _ => rfl)) pa_nil))) pa_nil)))))
      pss_nil)
    (pss_cons (ps_asg (pe_cD D_merged (hr.less (by omega)) rfl (pa_cons (kk (K := K) (F := fun K => tStep K 0 _) (P := PE _ _) (pe_step2 (lo := 0) (by decide) rfl (pv 0))) (pa_cons (kk (K := K) (F := fun K => tStep K 1 _) (P := PE _ _) (pe_step2 (lo := 1) (by decide) rfl (pv 1))) pa_nil))) (kk (K := K) (F := fun K => gTup K 2 _) (P := PG _ _) (pg_tup rfl (pgs_cons (pg_name (i := 2) sc_merged.nd rfl (Or.inl rfl)) (pgs_cons (pg_name (i := 3) sc_merged.nd rfl (Or.inl rfl)) pgs_nil)))))
    (pss_cons (ps_asg (pe_cD D_merged (hr.less (by omega)) rfl (pa_cons (kk (K := K) (F := fun K => tStep K 1 _) (P := PE _ _) (pe_step2 (lo := 1) (by decide) rfl (pv 0))) (pa_cons (kk (K := K) (F := fun K => tStep K 0 _) (P := PE _ _) (pe_step2 (lo := 0) (by decide) rfl (pv 1))) pa_nil))) (kk (K := K) (F := fun K => gTup K 2 _) (P := PG _ _) (pg_tup rfl (pgs_cons (pg_name (i := 4) sc_merged.nd rfl (Or.inl rfl)) (pgs_cons (pg_name (i := 5) sc_merged.nd rfl (Or.inl rfl)) pgs_nil)))))
    (pss_cons (ps_set (i := 6) sc_merged.nd rfl (Or.inl rfl) (kk (K := K) (F := fun K => tListZip K _) (P := PE _ _) (pe_listZip rfl (by rfl) B.list_ (by rfl) B.zip_ (pa_cons (pv 3) (pa_cons (pv 5) pa_nil)))))
    (pss_cons (ps_set (i := 7) sc_merged.nd rfl (Or.inl rfl) (pe_lst pa_nil))
    (pss_cons (ps_for PassesOwn.never rfl (kk (K := K) (F := fun K => iList K _) (P := PI _ _ _) (pi_list (pv 6))) (pg_name (i := 8) sc_merged.nd rfl (Or.inl rfl))
      (pss_one (ps_expr (kk (K := K) (F := fun K => tBM K "list" _ _ _) (P := PE _ _) (pe_bm PySem.F.plainAttrs_list PySem.F.slot_list_extend PySem.F.type_list_extend mt_extend (pv 7) (pa_cons (pe_callTy (lstOfK (K := K)) (by rfl) B.list_ (by decide +kernel) (pa_cons (pv 8) pa_nil)) pa_nil))))))
    (pss_one (ps_ret (pe_tup (pa_cons (pe_op op_cat (pe_op op_cat (pv 2) (pv 4)) (pv 6)) (pa_cons (pv 7) pa_nil))))))))))), ?_⟩)
    · obtain ⟨o1, o2, a, b, m, rfl, _⟩ := h; rfl
    · obtain ⟨o1, o2, a, b, m, rfl, h1, h2, la, lb, hm, h3, q⟩ := h
      refine ⟨_, rfl, o1, _, rfl, .inl (SqL.of h1), rfl, _, rfl, ite2 (fun c => ?_) (fun c => ?_)⟩
      · have hm0 : m = 0 := by
          have e := V.int.inj (of_decide_eq_true c)
          rw [iN_len, la] at e
          rcases Nat.eq_zero_or_pos m with e2 | e2
          · exact e2
          · have := Nat.one_lt_two_pow (n := m) (by omega); omega
        subst hm0
        have la' : a.length = 1 := la
        have lb' : b.length = 1 := lb
        have ga : a[0]? = some (a.getD 0 0) := getD_at (by omega)
        have gb : b[0]? = some (b.getD 0 0) := getD_at (by omega)
        refine ⟨_, rfl, o1, _, _, _, rfl, rfl, SqL.of h1, at_of (j := 0) rfl (iN_at ga), _, rfl, o2, _, _, _, rfl, rfl, SqL.of h2, at_of (j := 0) rfl (iN_at gb), sz, fun t ht => ⟨sz, fun L1 hL1 => ?_⟩⟩
        have S1 := same_new ht (.tup [.int (a.getD 0 0 : Nat), .int (b.getD 0 0 : Nat)])
        have S2 := same_new hL1 (.lst [.ref t])
        have S12 := S1.trans S2
        refine ⟨_, rfl, o1, _, _, _, rfl, rfl, SqL.of (S12 _ _ h1), at_of (j := 0) rfl (iN_at ga), _, rfl, o2, _, _, _, rfl, rfl, SqL.of (S12 _ _ h2), at_of (j := 0) rfl (iN_at gb), sz, fun L2 hL2 => ⟨sz, fun T hT => ?_⟩⟩
        have S3 := same_new hL2 (.lst [.int (a.getD 0 0 : Nat), .int (b.getD 0 0 : Nat)])
        have S4 := same_new hT (.tup [.ref L1, .ref L2])
        have S34 := S3.trans S4
        exact q T _ (S12.trans S34) ⟨L1, L2, upd_same, ⟨[t], S34 _ _ upd_same, PtsAt.one (S34 _ _ (S2 _ _ upd_same))⟩, S4 _ _ upd_same⟩ (FrT.of upd_same (S12.free hL2))
      · obtain ⟨k, rfl⟩ : ∃ k, m = k + 1 := by
          rcases Nat.eq_zero_or_pos m with e2 | e2
          · subst e2
            exact absurd (decide_eq_true (by rw [iN_len, la] <;> rfl)) c
          · exact ⟨m - 1, by omega⟩
        obtain ⟨e1, e2⟩ := two_pow_even k
        have l1 : (by2 0 a).length = 2 ^ k := by rw [by2_half (by decide) (by omega)]; omega
        have l2 : (by2 1 b).length = 2 ^ k := by rw [by2_half (by decide) (by omega)]; omega
        have l3 : (by2 1 a).length = 2 ^ k := by rw [by2_half (by decide) (by omega)]; omega
        have l4 : (by2 0 b).length = 2 ^ k := by rw [by2_half (by decide) (by omega)]; omega
        have ev1 : ((iN a).map V.int).length % 2 = 0 := by rw [iN_len]; omega
        have ev2 : ((iN b).map V.int).length % 2 = 0 := by rw [iN_len]; omega
        have bm : ∀ (lo : Nat) (x : List Nat), by2 lo ((iN x).map V.int) = (iN (by2 lo x)).map V.int := fun lo x => by unfold iN; rw [by2_map, by2_map]
        refine ⟨_, rfl, o1, _, rfl, SqL.of h1, ev1, fun p1 hp1 => ?_⟩
        have S1 := same_new hp1 (.lst (by2 0 ((iN a).map V.int)))
        refine ⟨_, rfl, o2, _, rfl, SqL.of (S1 _ _ h2), ev2, fun p2 hp2 => ?_⟩
        have S2 := same_new hp2 (.lst (by2 1 ((iN b).map V.int)))
        refine ⟨p1, p2, by2 0 a, by2 1 b, k, rfl, by rw [← bm]; exact S2 _ _ upd_same, by rw [← bm]; exact upd_same, l1, l2, by omega, by omega, fun T1 H1 S3 hT1 _ => ?_⟩
        obtain ⟨L1, U1, hT1, hL1, hU1⟩ := hT1
        have S13 := S1.trans (S2.trans S3)
        clear S1 S2 S3 hp1 hp2
        refine ⟨T1, _, rfl, SqT.of hT1, rfl, _, _, rfl, _, _, rfl, rfl, ?_⟩
        refine ⟨_, rfl, o1, _, rfl, SqL.of (S13 _ _ h1), ev1, fun p1 hp1 => ?_⟩
        have S4 := same_new hp1 (.lst (by2 1 ((iN a).map V.int)))
        refine ⟨_, rfl, o2, _, rfl, SqL.of (S4 _ _ (S13 _ _ h2)), ev2, fun p2 hp2 => ?_⟩
        have S5 := same_new hp2 (.lst (by2 0 ((iN b).map V.int)))
        refine ⟨p1, p2, by2 1 a, by2 0 b, k, rfl, by rw [← bm]; exact S5 _ _ upd_same, by rw [← bm]; exact upd_same, l3, l4, by omega, by omega, fun T2 H2 S6 hT2 _ => ?_⟩
        obtain ⟨L2, U2, hT2, hL2, hU2⟩ := hT2
        have S46 := S4.trans (S5.trans S6)
        clear S4 S5 S6 hp1 hp2
        refine ⟨T2, _, rfl, SqT.of hT2, rfl, _, _, rfl, _, _, rfl, rfl, ?_⟩
        have hL1' := hL1.same S46
        have hU1' := S46 _ _ hU1
        have g1 := mg_len k l1 l2
        have g2 := mg_len k l3 l4
        have t1 := mg_tog k l1 l2
        have t2 := mg_tog k l3 l4
        have hk16 : 2 ^ (k + 1) ≤ 2 ^ 3 := Nat.pow_le_pow_right (by decide) (by omega)
        have hkm : (k + 1) * 2 ^ k ≤ 3 * 2 ^ 2 := Nat.mul_le_mul (by omega) (Nat.pow_le_pow_right (by decide) (by omega))
        have S16 := S13.trans S46
        have hmg : mgd (k + 1) a b = ((mgd k (by2 0 a) (by2 1 b)).1 ++ (mgd k (by2 1 a) (by2 0 b)).1 ++ (mgd k (by2 0 a) (by2 1 b)).2.zip (mgd k (by2 1 a) (by2 0 b)).2, fl ((mgd k (by2 0 a) (by2 1 b)).2.zip (mgd k (by2 1 a) (by2 0 b)).2)) := rfl
        rw [hmg] at q
        clear hmg hL1 hU1 hT1 hT2
        generalize mgd k (by2 0 a) (by2 1 b) = x at *
        generalize mgd k (by2 1 a) (by2 0 b) = y at *
        obtain ⟨x1, x2⟩ := x
        obtain ⟨y1, y2⟩ := y
        have g1' : x2.length = 2 ^ (k + 1) := g1
        have g2' : y2.length = 2 ^ (k + 1) := g2
        refine ⟨_, rfl, _, rfl, U1, U2, _, _, rfl, SqL.of hU1', SqL.of hU2, by rw [iN_len, iN_len, g1, g2], by rw [iN_len]; show x2.length ≤ 1000; omega, fun S ts H3 S7 hfr hS hls hps => ?_⟩
        have hpt := pts_of hls (by show x2.length = y2.length; omega) hps
        have zl : (x2.zip y2).length = 2 ^ (k + 1) := by rw [List.length_zip]; show min x2.length y2.length = _; omega
        generalize x2.zip y2 = z at hpt zl q
        refine ⟨sz, fun R hR => ?_⟩
        have S8 := same_new hR (.lst [])
        have hS8 := S8 _ _ hS
        refine ⟨_, rfl, S, rfl, ⟨_, SqL.of hS8⟩, ?_⟩
        refine for_list (K := K) (a := S) (xs := ts.map V.ref) (fun i σ H4 => ∃ v8 : Option V, σ = [some (.ref o1), some (.ref o2), some (.ref L1), some (.ref U1), some (.ref L2), some (.ref U2), some (.ref S), some (.ref R), v8] ∧ Same H3 H4 ∧ H4 R = some (.lst ((iN (fl (z.take i))).map V.int))) ⟨none, rfl, S8, upd_same⟩ (fun i σ H4 _ h => by obtain ⟨_, _, h2, _⟩ := h; exact SqL.of (h2 _ _ hS)) ?_ ?_
        · rintro i w σ H4 hi ⟨v8, rfl, S9, hR4⟩
          rw [List.getElem?_map] at hi
          obtain ⟨t, ht, rfl⟩ := Option.map_eq_some_iff.mp hi
          have hil := (List.getElem?_eq_some_iff.mp ht).1
          have hil2 : i < z.length := by rw [← hpt.1]; exact hil
          have htp := S9 _ _ (hpt.2 i t z[i] ht (List.getElem?_eq_getElem hil2))
          refine ⟨_, rfl, .inl ⟨rfl, _, SqL.of hR4⟩, _, rfl, t, _, rfl, .inr (SqT.of htp), fun b hb => ?_⟩
          have S10 := same_new hb (.lst [.int (z[i].1 : Nat), .int (z[i].2 : Nat)])
          have nRb : R ≠ b := ne_of_none hR4 hb
          refine ⟨R, b, _, _, rfl, rfl, by rw [upd_ne nRb]; exact hR4, upd_same, small (by rw [iN_len, fl_len, List.length_take]; show 2 * min i z.length + 2 ≤ 1000; omega), ?_⟩
          refine ⟨_, rfl, but_same hR (S9.trans S10) But.upd, ?_⟩
          rw [upd_same, List.take_succ, List.getElem?_eq_getElem hil2]
          show _ = some (HO.lst ((iN (fl (z.take i ++ [z[i]]))).map V.int))
          rw [fl_snoc]
          unfold iN
          rw [List.map_append, List.map_append] <;> rfl
        · rintro σ H4 ⟨v8, rfl, S9, hR4⟩
          rw [List.length_map, hpt.1, List.take_length] at hR4
          have S39 := S7.trans S9
          obtain ⟨t1s, hL1a, hL1b⟩ := hL1'.same S39
          obtain ⟨t2s, hL2a, hL2b⟩ := hL2.same S39
          have c1 : t1s.length = x1.length := hL1b.1
          have c2 : t2s.length = y1.length := hL2b.1
          have c1' : x1.length = (k + 1) * 2 ^ k := t1
          have c2' : y1.length = (k + 1) * 2 ^ k := t2
          refine ⟨_, rfl, _, rfl, L1, L2, _, _, rfl, rfl, hL1a, hL2a, small (by rw [List.length_map, List.length_map]; omega), fun L hL => ?_⟩
          have S10 := same_new hL (.lst (t1s.map V.ref ++ t2s.map V.ref))
          refine ⟨_, rfl, L, S, _, _, rfl, rfl, upd_same, S10 _ _ (S9 _ _ hS), small (by rw [List.length_append, List.length_map, List.length_map, List.length_map]; have := hpt.1; omega), fun M hM => ?_⟩
          have S11 := same_new hM (.lst ((t1s.map V.ref ++ t2s.map V.ref) ++ ts.map V.ref))
          refine ⟨_, rfl, sz, fun T hT => ?_⟩
          have S12 := same_new hT (.tup [.ref M, .ref R])
          have S1112 := S11.trans S12
          have S1012 := S10.trans S1112
          refine q T _ (S16.trans (S39.trans S1012)) ⟨M, R, upd_same, ⟨t1s ++ t2s ++ ts, ?_, ((hL1b.same S1012).app (hL2b.same S1012)).app (hpt.same (S9.trans S1012))⟩, S1012 _ _ hR4⟩ (FrT.of upd_same ((S16.trans S7).free hR))
          rw [S12 _ _ upd_same, List.map_append, List.map_append]
theorem k_merged (D : Df K mg "merged" s_merged ["one", "other"]) : Dn P w K mg base 5 "merged" ["one", "other"] ((spMerged K) 4) := k_merged_rec B D  4
def spCl (K : PySem.W.Frag) (n : Nat) : Sp := fun vs H Q _ => ∃ (o : Addr) (ls : List Nat) (m : Nat), vs = [.ref o] ∧ H o = some (.lst ((iN ls).map V.int)) ∧ ls.length = 2 ^ m ∧ m < n ∧ m ≤ 3 ∧ ∀ T H', Same H H' → MgAt H' T (cl m ls) → (∀ L1 L2 : Addr, H' T = some (.tup [.ref L1, .ref L2]) → H L2 = none ∨ L2 = o) → Q (.ref T) H'
theorem counted_lines_z (vs : List V) (H : Hp) (Q : VK) (E : XK) : ¬ spCl K 0 vs H Q E := by
  rintro ⟨o, ls, m, _, _, _, h, _⟩
  omega
omit B in
theorem cl_tog : ∀ m, m ≤ 3 → ∀ {ls : List Nat}, ls.length = 2 ^ m → (cl m ls).1.length ≤ 100 := by
  have h0 : ∀ {ls : List Nat}, ls.length = 2 ^ 0 → (cl 0 ls).1.length ≤ 0 := fun _ => Nat.le_refl _
  have up : ∀ m b, m ≤ 2 → (∀ {ls : List Nat}, ls.length = 2 ^ m → (cl m ls).1.length ≤ b) → ∀ {ls : List Nat}, ls.length = 2 ^ (m + 1) → (cl (m + 1) ls).1.length ≤ 2 * b + 12 := by
    intro m b hm ih ls hl
    have e3 : 2 ^ (m + 1) = 2 ^ m + 2 ^ m := by rw [Nat.pow_succ]; omega
    have a1 : (ls.take (2 ^ m)).length = 2 ^ m := by rw [List.length_take]; omega
    have a2 : (ls.drop (2 ^ m)).length = 2 ^ m := by rw [List.length_drop]; omega
    have i1 := ih a1
    have i2 := ih a2
    have hkm : (m + 1) * 2 ^ m ≤ 3 * 2 ^ 2 := Nat.mul_le_mul (by omega) (Nat.pow_le_pow_right (by decide) (by omega))
    show (_ ++ _ ++ _ : List (Nat × Nat)).length ≤ _
    rw [List.length_append, List.length_append, mg_tog m (cl_len m a1) (cl_len m a2)]
    omega
  intro m hm
  obtain rfl | rfl | rfl | rfl : m = 0 ∨ m = 1 ∨ m = 2 ∨ m = 3 := by omega
  · exact fun hl => Nat.le_trans (h0 hl) (by decide)
  · exact fun hl => Nat.le_trans (up 0 0 (by decide) h0 hl) (by decide)
  · exact fun hl => Nat.le_trans (up 1 12 (by decide) (up 0 0 (by decide) h0) hl) (by decide)
  · exact fun hl => Nat.le_trans (up 2 36 (by decide) (up 1 12 (by decide) (up 0 0 (by decide) h0)) hl) (by decide)
theorem k_counted_lines_rec (D : Df K mg "counted_lines" s_counted_lines ["lines"]) (D_merged : Dn P w K mg base 5 "merged" ["one", "other"] ((spMerged K) 4)) : ∀ n : Nat, Dn P w K mg base (6 + n) "counted_lines" ["lines"] ((spCl K) n) := by
  intro n
  induction n with
  | zero => exact D.ok fun f fd F => ⟨fun vs H Q E h => (counted_lines_z B vs H Q E h).elim, fun _ _ _ _ h => (counted_lines_z B _ _ _ _ h).elim⟩
  | succ n D_counted_lines =>
    refine D.ok fun f fd F => okG0 (k := 6 + n) F sc_counted_lines (fun vs H Q E h => ?_) (fun cdv A outer s H vs Q E hr h => ⟨_, (pss_cons (ps_if (pt_cmpR op_eq (pe_callB (lenK (K := K)) (by rfl) B.len_ (by decide +kernel) (pa_cons (pv 0) pa_nil)) pe_int (nomark _))
      (pss_one (ps_ret (pe_tup (pa_cons (pe_lst pa_nil) (pa_cons (pv 0) pa_nil)))))
      pss_nil)
    (pss_cons (ps_set (i := 1) sc_counted_lines.nd rfl (Or.inl rfl) (pe_op op_fdivW (pe_callB (lenK (K := K)) (by rfl) B.len_ (by decide +kernel) (pa_cons (pv 0) pa_nil)) pe_int))
    (pss_cons (ps_asg (pe_cD D_counted_lines (hr.less (by omega)) rfl (pa_cons (pe_slice (kk (K := K) (F := rSlL) (P := L2.SlR _) sl_list) (pv 0) po_none (po_some (pv 1))) pa_nil)) (kk (K := K) (F := fun K => gTup K 2 _) (P := PG _ _) (pg_tup rfl (pgs_cons (pg_name (i := 2) sc_counted_lines.nd rfl (Or.inl rfl)) (pgs_cons (pg_name (i := 3) sc_counted_lines.nd rfl (Or.inl rfl)) pgs_nil)))))
    (pss_cons (ps_asg (pe_cD D_counted_lines (hr.less (by omega)) rfl (pa_cons (pe_slice (kk (K := K) (F := rSlL) (P := L2.SlR _) sl_list) (pv 0) (po_some (pv 1)) po_none) pa_nil)) (kk (K := K) (F := fun K => gTup K 2 _) (P := PG _ _) (pg_tup rfl (pgs_cons (pg_name (i := 4) sc_counted_lines.nd rfl (Or.inl rfl)) (pgs_cons (pg_name (i := 5) sc_counted_lines.nd rfl (Or.inl rfl)) pgs_nil)))))
    (pss_cons (ps_asg (pe_cD D_merged (hr.less (by omega)) rfl (pa_cons (pv 3) (pa_cons (pv 5) pa_nil))) (kk (K := K) (F := fun K => gTup K 2 _) (P := PG _ _) (pg_tup rfl (pgs_cons (pg_name (i := 6) sc_counted_lines.nd rfl (Or.inl rfl)) (pgs_cons (pg_name (i := 7) sc_counted_lines.nd rfl (Or.inl rfl)) pgs_nil)))))
    (pss_one (ps_ret (pe_tup (pa_cons (pe_op op_cat (pe_op op_cat (pv 2) (pv 4)) (pv 6)) (pa_cons (pv 7) pa_nil)))))))))), ?_⟩)
    · obtain ⟨o, ls, m, rfl, _⟩ := h; rfl
    · obtain ⟨o, ls, m, rfl, h1, la, hm, h3, q⟩ := h
      refine ⟨_, rfl, o, _, rfl, .inl (SqL.of h1), rfl, _, rfl, ite2 (fun c => ?_) (fun c => ?_)⟩
      · have hm0 : m = 0 := by
          have e := V.int.inj (of_decide_eq_true c)
          rw [iN_len, la] at e
          rcases Nat.eq_zero_or_pos m with e2 | e2
          · exact e2
          · have := Nat.one_lt_two_pow (n := m) (by omega); omega
        subst hm0
        refine ⟨sz, fun L1 hL1 => ⟨_, rfl, sz, fun T hT => ?_⟩⟩
        have S1 := same_new hL1 (.lst [])
        have S2 := same_new hT (.tup [.ref L1, .ref o])
        exact q T _ (S1.trans S2) ⟨L1, o, upd_same, ⟨[], S2 _ _ upd_same, rfl, fun j t p h => by simp at h⟩, S2 _ _ (S1 _ _ h1)⟩ (fun M1 M2 h => by
          rw [upd_same] at h
          cases (HO.tup.inj (Option.some.inj h))
          exact .inr rfl)
      · obtain ⟨k, rfl⟩ : ∃ k, m = k + 1 := by
          rcases Nat.eq_zero_or_pos m with e2 | e2
          · subst e2
            exact absurd (decide_eq_true (by rw [iN_len, la] <;> rfl)) c
          · exact ⟨m - 1, by omega⟩
        obtain ⟨e1, e2⟩ := two_pow_even k
        have e3 : 2 ^ (k + 1) = 2 ^ k + 2 ^ k := by rw [Nat.pow_succ]; omega
        have eh : ((((iN ls).map V.int).length : Nat) : Int) / 2 = ((2 ^ k : Nat) : Int) := by rw [iN_len, la]; omega
        have a1 : (ls.take (2 ^ k)).length = 2 ^ k := by rw [List.length_take]; omega
        have a2 : (ls.drop (2 ^ k)).length = 2 ^ k := by rw [List.length_drop]; omega
        have ct : cutV ((iN ls).map V.int) none (some (((((iN ls).map V.int).length : Nat) : Int) / 2)) = (iN (ls.take (2 ^ k))).map V.int := by
          rw [eh, cut_to]; unfold iN; rw [List.map_take, List.map_take]
        have cf : cutV ((iN ls).map V.int) (some (((((iN ls).map V.int).length : Nat) : Int) / 2)) none = (iN (ls.drop (2 ^ k))).map V.int := by
          rw [eh, cut_from]; unfold iN; rw [List.map_drop, List.map_drop]
        refine ⟨_, rfl, o, _, rfl, .inl (SqL.of h1), _, _, rfl, rfl, ⟨by decide, by decide⟩, ?_⟩
        refine ⟨_, rfl, _, rfl, _, rfl, o, _, rfl, SqL.of h1, fun p1 hp1 => ?_⟩
        have S1 := same_new hp1 (.lst (cutV ((iN ls).map V.int) none (some (((((iN ls).map V.int).length : Nat) : Int) / 2))))
        refine ⟨p1, ls.take (2 ^ k), k, rfl, by rw [upd_same, ← ct], a1, by omega, by omega, fun T1 H1 S2 hT1 _ => ?_⟩
        obtain ⟨L1, U1, hT1, hL1, hU1⟩ := hT1
        have S12 := S1.trans S2
        clear S1 S2 hp1
        refine ⟨T1, _, rfl, SqT.of hT1, rfl, _, _, rfl, _, _, rfl, rfl, ?_⟩
        refine ⟨_, rfl, _, rfl, _, rfl, o, _, rfl, SqL.of (S12 _ _ h1), fun p2 hp2 => ?_⟩
        have S3 := same_new hp2 (.lst (cutV ((iN ls).map V.int) (some (((((iN ls).map V.int).length : Nat) : Int) / 2)) none))
        refine ⟨p2, ls.drop (2 ^ k), k, rfl, by rw [upd_same, ← cf], a2, by omega, by omega, fun T2 H2 S4 hT2 _ => ?_⟩
        obtain ⟨L2, U2, hT2, hL2, hU2⟩ := hT2
        have S34 := S3.trans S4
        clear S3 S4 hp2
        refine ⟨T2, _, rfl, SqT.of hT2, rfl, _, _, rfl, _, _, rfl, rfl, ?_⟩
        refine ⟨_, rfl, _, rfl, U1, U2, _, _, k, rfl, S34 _ _ hU1, hU2, cl_len k a1, cl_len k a2, by omega, by omega, fun T3 H3 S5 hT3 fr3 => ?_⟩
        obtain ⟨L3, U3, hT3, hL3, hU3⟩ := hT3
        have fU3 := (S12.trans S34).free (fr3 _ _ hT3)
        refine ⟨T3, _, rfl, SqT.of hT3, rfl, _, _, rfl, _, _, rfl, rfl, ?_⟩
        obtain ⟨t1s, hL1a, hL1b⟩ := (hL1.same S34).same S5
        obtain ⟨t2s, hL2a, hL2b⟩ := hL2.same S5
        obtain ⟨t3s, hL3a, hL3b⟩ := hL3
        have c1 := hL1b.1
        have c2 := hL2b.1
        have c3 := hL3b.1
        have d1 := cl_tog k (by omega) a1
        have d2 := cl_tog k (by omega) a2
        have d3 := mg_tog k (cl_len k a1) (cl_len k a2)
        have hkm : (k + 1) * 2 ^ k ≤ 3 * 2 ^ 2 := Nat.mul_le_mul (by omega) (Nat.pow_le_pow_right (by decide) (by omega))
        refine ⟨_, rfl, _, rfl, L1, L2, _, _, rfl, rfl, hL1a, hL2a, small (by rw [List.length_map, List.length_map]; omega), fun L hL => ?_⟩
        have S6 := same_new hL (.lst (t1s.map V.ref ++ t2s.map V.ref))
        refine ⟨_, rfl, L, L3, _, _, rfl, rfl, upd_same, S6 _ _ hL3a, small (by rw [List.length_append, List.length_map, List.length_map, List.length_map]; omega), fun M hM => ?_⟩
        have S7 := same_new hM (.lst ((t1s.map V.ref ++ t2s.map V.ref) ++ t3s.map V.ref))
        refine ⟨_, rfl, sz, fun T hT => ?_⟩
        have S8 := same_new hT (.tup [.ref M, .ref U3])
        have S68 := S6.trans (S7.trans S8)
        refine q T _ (S12.trans (S34.trans (S5.trans S68))) ⟨M, U3, upd_same, ⟨t1s ++ t2s ++ t3s, ?_, ((hL1b.same S68).app (hL2b.same S68)).app (hL3b.same S68)⟩, S68 _ _ hU3⟩ (fun M1 M2 h => by
          rw [upd_same] at h
          cases (HO.tup.inj (Option.some.inj h))
          exact .inl fU3)
        rw [S8 _ _ upd_same, List.map_append, List.map_append]
theorem k_counted_lines (D : Df K mg "counted_lines" s_counted_lines ["lines"]) (D_merged : Dn P w K mg base 5 "merged" ["one", "other"] ((spMerged K) 4)) : Dn P w K mg base 10 "counted_lines" ["lines"] ((spCl K) 4) := k_counted_lines_rec B D D_merged 4
def spNet (K : PySem.W.Frag) : Sp := fun vs H Q _ => ∃ k : Nat, vs = [.int k] ∧ k ≤ 3 ∧ ∀ T H', Same H H' → MgAt H' T (cl k (List.range (2 ^ k))) → FrT H H' T → Q (.ref T) H'
theorem k_counting_net (D : Df K mg "counting_net" s_counting_net ["k"]) (D_want_net : DnD P w K mg base 3 "want_net" ["k", "deepest"] [] spWantNet) (D_counted_lines : Dn P w K mg base 10 "counted_lines" ["lines"] ((spCl K) 4)) : Dn P w K mg base 12 "counting_net" ["k"] (spNet K) := by
  refine D.ok fun f fd F => okG0 F sc_counting_net (fun vs H Q E h => ?_) (fun cdv A outer s H vs Q E hr h => ⟨_, (pss_cons (ps_expr (pe_cDd D_want_net (hr.less (by decide)) rfl (pa_cons (pv 0) (pa_cons (pe_glob (v := .int (3)) (u := .int (3) B.DEEPEST_.choose) (by rfl) B.DEEPEST_.choose_spec ⟨_, rfl⟩) pa_nil))))
    (pss_one (ps_ret (pe_cD D_counted_lines (hr.less (by decide)) rfl (pa_cons (pe_listRg rfl (by rfl) B.list_ (prg_1 rfl B.range_ (pe_op op_shlW pe_int (pv 0)))) pa_nil))))), ?_⟩)
  · obtain ⟨k, rfl, _⟩ := h; rfl
  · obtain ⟨k, rfl, hk, q⟩ := h
    have eM : 2 ^ k ≤ 8 := (Nat.pow_le_pow_right (by decide) hk : 2 ^ k ≤ 2 ^ 3)
    have e0 := Int.natCast_nonneg (2 ^ k)
    refine ⟨_, rfl, (k : Int), 3, rfl, by omega, by omega, ?_⟩
    refine ⟨_, rfl, _, _, rfl, rfl, shl_ok (by omega), _, rfl, ?_, fun p hp => ?_⟩
    · rw [shl_eq]; exact RgOk.of_le (by decide) (by omega) (by decide) (by omega)
    have erg : rgV 0 (1 * 2 ^ ((k : Int)).toNat) = (iN (List.range (2 ^ k))).map V.int := by
      unfold rgV iN
      rw [shl_eq, show (((2 ^ k : Nat) : Int) - 0).toNat = 2 ^ k by omega, List.map_map]
      exact List.map_congr_left fun x _ => by rw [Int.zero_add] <;> rfl
    rw [erg]
    exact ⟨p, List.range (2 ^ k), k, rfl, upd_same, List.length_range, by omega, hk, fun T H' S hT fr => q T H' ((same_new hp _).trans S) hT (fun L1 L2 h => (fr L1 L2 h).elim (fun e => (same_new hp _).free e) (fun e => by rw [e]; exact hp))⟩
omit B in
theorem net_len : ∀ k, k < 4 → (cl k (List.range (2 ^ k))).1.length ≤ 100 ∧ (cl k (List.range (2 ^ k))).2.length = 2 ^ k := by decide +kernel
omit B in
theorem net_row : ∀ k, k < 4 → (∀ l, l < 2 ^ k → l ∈ (cl k (List.range (2 ^ k))).2) ∧ (∀ pr ∈ (cl k (List.range (2 ^ k))).1, pr.1 ∈ (cl k (List.range (2 ^ k))).2 ∧ pr.2 ∈ (cl k (List.range (2 ^ k))).2) := by decide +kernel
omit B in
theorem rep_flat1 (n : Nat) (x : V) : (List.replicate n [x]).flatten = List.replicate n x := by
  induction n with
  | zero => rfl
  | succ n ih => rw [List.replicate_succ, List.flatten_cons, ih, List.replicate_succ] <;> rfl
def spCtInit (K : PySem.W.Frag) (C : Addr) : Sp := fun vs H Q _ => ∃ (p dx : Addr) (k : Nat), vs = [.ref p, .int k] ∧ H p = some (.ins C dx []) ∧ k ≤ 3 ∧
  ∀ (c : Ct) H', But p H H' → CtAt C H' p c (cl k (List.range (2 ^ k))).1 (cl k (List.range (2 ^ k))).2 (List.replicate (cl k (List.range (2 ^ k))).1.length true) (List.replicate (2 ^ k) 0) [] → (∀ a ∈ [c.U, c.R, c.M, c.A], H a = none) → Q .non H'
theorem k_Counter____init__ (D : DfI K (cAt mg "Counter") "Counter.__init__" s_Counter____init__ ["self", "k"]) (D_counting_net : Dn P w K mg base 12 "counting_net" ["k"] (spNet K)) : DnI P w K mg base (cAt mg "Counter") 13 ["self", "k"] (spCtInit K (cAt mg "Counter")) := by
  refine D.ok fun f fd F => okG0 F sc_Counter____init__ (fun vs H Q E h => ?_) (fun cdv A outer s H vs Q E hr h => ⟨_, (pss_cons (ps_asg (pe_cD D_counting_net (hr.less (by decide)) rfl (pa_cons (pv 1) pa_nil)) (kk (K := K) (F := fun K => gTup K 2 _) (P := PG _ _) (pg_tup rfl (pgs_cons (kk (K := K) (F := fun K => gFld K _ _) (P := PG _ _) (pg_fld (pv 0))) (pgs_cons (pg_name (i := 2) sc_Counter____init__.nd rfl (Or.inl rfl)) pgs_nil)))))
    (pss_cons (kk (K := K) (F := fun K => sFld K _ _ _) (P := PS _ _) (ps_fld (pv 0) (pe_op op_rep (pe_lst (pa_cons pe_bl pa_nil)) (pe_callB (lenK (K := K)) (by rfl) B.len_ (by decide +kernel) (pa_cons (kk (K := K) (F := fun K => tFld K _ _) (P := PE _ _) (pe_fld (pv 0) rfl)) pa_nil))) rfl))
    (pss_cons (kk (K := K) (F := fun K => sFld K _ _ _) (P := PS _ _) (ps_fld (pv 0) (pv 2) rfl))
    (pss_cons (kk (K := K) (F := fun K => sFld K _ _ _) (P := PS _ _) (ps_fld (pv 0) (pe_op op_rep (pe_lst (pa_cons pe_int pa_nil)) (pe_callB (lenK (K := K)) (by rfl) B.len_ (by decide +kernel) (pa_cons (pv 2) pa_nil))) rfl))
    (pss_one (kk (K := K) (F := fun K => sFld K _ _ _) (P := PS _ _) (ps_fld (pv 0) (pe_lst pa_nil) rfl))))))), ?_⟩)
  · obtain ⟨p, dx, k, rfl, _⟩ := h; rfl
  · obtain ⟨p, dx, k, rfl, hp, hk, q⟩ := h
    obtain ⟨n1, n2⟩ := net_len k (by omega)
    have cl0 := B.Counter_.cl
    have nf := B.Counter_.no
    refine ⟨_, rfl, k, rfl, hk, fun T H1 S1 hT fr => ?_⟩
    generalize cl k (List.range (2 ^ k)) = net at *
    obtain ⟨tg, row⟩ := net
    obtain ⟨P, R, hT, hP, hR⟩ := hT
    have hp1 := S1 _ _ hp
    refine ⟨T, _, rfl, SqT.of hT, rfl, _, _, rfl, _, rfl, p, _, dx, _, rfl, hp1, cl0, nf _ (by decide +kernel), by decide, _, _, rfl, rfl, ?_⟩
    have L1 : tg.length ≤ 100 := n1
    have L2 : row.length = 2 ^ k := n2
    have l16 : 2 ^ k ≤ 8 := by
      have := Nat.pow_le_pow_right (n := 2) (by omega) hk
      omega
    obtain ⟨ts, hPl, hts⟩ := hP
    have hp2 : ∀ D, H1 D = none → p ≠ D := fun D hD => ne_of_none hp1 hD
    have hT1 : ∀ D xs, H1 D = some (.lst xs) → p ≠ D := fun D xs hD => ne_of hp1 hD (by intro z; cases z)
    have k0 : ∀ (f : Str) (v : V), (putF f v ([] : List (Str × V))).length < 2 := fun f v => by have := length_putF f v []; have e : ([] : List (Str × V)).length = 0 := rfl; omega
    have kS : ∀ (f : Str) (v : V) (fs : List (Str × V)) (n : Nat), fs.length < n → (putF f v fs).length < n + 1 := fun f v fs n h => by have := length_putF f v fs; omega
    have kT : ∀ (fs : List (Str × V)) (n : Nat), fs.length < n → n ≤ 1000 → fs.length < 1000 := fun fs n h1 h2 => by omega
    have hPp : P ≠ p := Ne.symm (hT1 _ _ hPl)
    have hRp : R ≠ p := Ne.symm (hT1 _ _ hR)
    have bA : But p H1 (upd H1 p (.ins (cAt mg "Counter") dx (putF "pairs" (.ref P) []))) := But.upd
    have hpA := upd_same (H := H1) (a := p) (o := .ins (cAt mg "Counter") dx (putF "pairs" (.ref P) []))
    generalize upd H1 p (.ins (cAt mg "Counter") dx (putF "pairs" (.ref P) [])) = HA at bA hpA ⊢
    refine ⟨sz, fun l hl => ?_⟩
    have bB := bA.trans (same_but (p := p) (same_new hl (.lst [.bl true])))
    have hpB := same_new hl (.lst [.bl true]) _ _ hpA
    refine ⟨_, rfl, p, _, dx, _, _, rfl, hpB, cl0, nf _ (by decide +kernel), (by rw [lookup_putF, if_pos rfl] <;> rfl), P, _, rfl, .inl (SqL.of (bB _ _ hPp hPl)), ?_⟩
    have lt : (ts.map V.ref).length ≤ 100 := by rw [List.length_map, hts.1]; exact L1
    have s1k : 1000 ≤ sizeLine := by decide
    refine ⟨l, _, _, rfl, rfl, upd_same, by omega, by omega, Nat.le_trans (by show 1 * _ ≤ 1000; omega) s1k, fun U hU => ?_⟩
    have hlU : l ≠ U := ne_of_none upd_same hU
    have bC := bB.trans (same_but (p := p) (same_new hU (.lst (List.replicate (ts.map V.ref).length (.bl true)))))
    have hpC := same_new hU (.lst (List.replicate (ts.map V.ref).length (.bl true))) _ _ hpB
    rw [show ((((ts.map V.ref).length : Nat) : Int).toNat) = (ts.map V.ref).length by omega, rep_flat1]
    rw [List.length_map] at bC hpC ⊢
    have hUC := upd_same (H := upd HA l (.lst [.bl true])) (a := U) (o := .lst (List.replicate ts.length (.bl true)))
    generalize upd (upd HA l (.lst [.bl true])) U (.lst (List.replicate ts.length (.bl true))) = HC at bC hpC hUC ⊢
    have hUp : U ≠ p := ne_of hUC hpC (by intro z; cases z)
    refine ⟨_, rfl, p, _, dx, _, rfl, hpC, cl0, nf _ (by decide +kernel), kT _ _ (k0 _ _) (by decide), ?_⟩
    have bD := bC.trans (But.upd (p := p) (o := .ins (cAt mg "Counter") dx (putF "ups" (.ref U) (putF "pairs" (.ref P) []))))
    have hpD := upd_same (H := HC) (a := p) (o := .ins (cAt mg "Counter") dx (putF "ups" (.ref U) (putF "pairs" (.ref P) [])))
    have cD : But p HC _ := But.upd (p := p) (o := .ins (cAt mg "Counter") dx (putF "ups" (.ref U) (putF "pairs" (.ref P) [])))
    generalize upd HC p (.ins (cAt mg "Counter") dx (putF "ups" (.ref U) (putF "pairs" (.ref P) []))) = HD at bD hpD cD ⊢
    have hUD := cD _ _ hUp hUC
    refine ⟨_, rfl, _, rfl, p, _, dx, _, rfl, hpD, cl0, nf _ (by decide +kernel), kT _ _ (kS _ _ _ _ (k0 _ _)) (by decide), ?_⟩
    have cE : But p HD _ := But.upd (p := p) (o := .ins (cAt mg "Counter") dx (putF "row" (.ref R) (putF "ups" (.ref U) (putF "pairs" (.ref P) []))))
    have hpE := upd_same (H := HD) (a := p) (o := .ins (cAt mg "Counter") dx (putF "row" (.ref R) (putF "ups" (.ref U) (putF "pairs" (.ref P) []))))
    generalize upd HD p (.ins (cAt mg "Counter") dx (putF "row" (.ref R) (putF "ups" (.ref U) (putF "pairs" (.ref P) [])))) = HE at hpE cE ⊢
    have bE := bD.trans cE
    have hUE := cE _ _ hUp hUD
    refine ⟨sz, fun m hm => ?_⟩
    have eF := same_new hm (.lst [.int 0])
    have hmF := upd_same (H := HE) (a := m) (o := .lst [.int 0])
    generalize upd HE m (.lst [.int 0]) = HF at eF hmF ⊢
    have bF := bE.trans (same_but (p := p) eF)
    have hRF := bF _ _ hRp hR
    refine ⟨_, rfl, R, _, rfl, .inl (SqL.of hRF), ?_⟩
    have lR : ((iN row).map V.int).length = 2 ^ k := by rw [iN_len, L2]
    refine ⟨m, _, _, rfl, rfl, hmF, by rw [lR]; omega, by rw [lR]; omega, Nat.le_trans (by show 1 * _ ≤ 1000; rw [lR]; omega) s1k, fun M hM => ?_⟩
    rw [show ((((iN row).map V.int).length : Nat) : Int).toNat = 2 ^ k by rw [lR]; omega, rep_flat1]
    have eG := same_new hM (.lst (List.replicate (2 ^ k) (.int 0)))
    have hMG := upd_same (H := HF) (a := M) (o := .lst (List.replicate (2 ^ k) (.int 0)))
    generalize upd HF M (.lst (List.replicate (2 ^ k) (.int 0))) = HG at eG hMG ⊢
    have bG := bF.trans (same_but (p := p) eG)
    have hpG := eG _ _ (eF _ _ hpE)
    have hMp : M ≠ p := ne_of hMG hpG (by intro z; cases z)
    refine ⟨_, rfl, p, _, dx, _, rfl, hpG, cl0, nf _ (by decide +kernel), kT _ _ (kS _ _ _ _ (kS _ _ _ _ (k0 _ _))) (by decide), ?_⟩
    have cH : But p HG _ := But.upd (p := p) (o := .ins (cAt mg "Counter") dx (putF "many_out" (.ref M) (putF "row" (.ref R) (putF "ups" (.ref U) (putF "pairs" (.ref P) [])))))
    have hpH := upd_same (H := HG) (a := p) (o := .ins (cAt mg "Counter") dx (putF "many_out" (.ref M) (putF "row" (.ref R) (putF "ups" (.ref U) (putF "pairs" (.ref P) [])))))
    generalize upd HG p (.ins (cAt mg "Counter") dx (putF "many_out" (.ref M) (putF "row" (.ref R) (putF "ups" (.ref U) (putF "pairs" (.ref P) []))))) = HH at hpH cH ⊢
    have bH := bG.trans cH
    have hMH := cH _ _ hMp hMG
    refine ⟨sz, fun A' hA => ?_⟩
    have eI := same_new hA (.lst [])
    have hAI := upd_same (H := HH) (a := A') (o := .lst [])
    generalize upd HH A' (.lst []) = HI at eI hAI ⊢
    have bI := bH.trans (same_but (p := p) eI)
    have hpI := eI _ _ hpH
    have hAp : A' ≠ p := ne_of hAI hpI (by intro z; cases z)
    refine ⟨_, rfl, p, _, dx, _, rfl, hpI, cl0, nf _ (by decide +kernel), kT _ _ (kS _ _ _ _ (kS _ _ _ _ (kS _ _ _ _ (k0 _ _)))) (by decide), ?_⟩
    have cJ : But p HI _ := But.upd (p := p) (o := .ins (cAt mg "Counter") dx (cf ⟨dx, P, U, R, M, A'⟩))
    have hpJ := upd_same (H := HI) (a := p) (o := .ins (cAt mg "Counter") dx (cf ⟨dx, P, U, R, M, A'⟩))
    have bJ := bI.trans cJ
    have hPR : P ≠ R := fun e => by
      rw [e, hR] at hPl
      have e2 := HO.lst.inj (Option.some.inj hPl)
      cases row with
      | nil => have := Nat.two_pow_pos k; rw [← L2] at this; exact absurd this (by decide)
      | cons a r =>
        cases ts with
        | nil => cases e2
        | cons t ts => cases e2
    have hPU := ne_of_none (bB _ _ hPp hPl) hU
    have hRU := ne_of_none (bB _ _ hRp hR) hU
    have hPM := ne_of_none (bF _ _ hPp hPl) hM
    have hRM := ne_of_none hRF hM
    have hUM := ne_of_none (eF _ _ hUE) hM
    have hUH := cH _ _ hUp (eG _ _ (eF _ _ hUE))
    have hPA := ne_of_none (bH _ _ hPp hPl) hA
    have hRA := ne_of_none (bH _ _ hRp hR) hA
    have hUA := ne_of_none hUH hA
    have hMA := ne_of_none hMH hA
    refine q ⟨dx, P, U, R, M, A'⟩ _ ((same_but S1).trans bJ) ⟨hpJ, ⟨ts, bJ _ _ hPp hPl, hts.keep fun t xs e => bJ _ _ (ne_of e hp1 (by intro z; cases z)) e⟩, ?_, bJ _ _ hRp hR, ?_, ⟨[], cJ _ _ hAp hAI, rfl, fun j t s e => by simp at e⟩, ?_, ?_, ?_⟩ ?_
    · refine (cJ _ _ hUp (eI _ _ hUH)).trans ?_
      rw [hts.1, List.map_replicate] <;> rfl
    · refine (cJ _ _ hMp (eI _ _ hMH)).trans ?_
      unfold iN
      rw [List.map_replicate, List.map_replicate] <;> rfl
    · simp [hPU, hPR, hPM, hPA, Ne.symm hRU, hUM, hUA, hRM, hRA, hMA]
    · exact List.length_replicate
    · rw [List.length_replicate, n2]
    · intro a ha
      simp only [List.mem_cons, List.not_mem_nil, or_false] at ha
      rcases ha with rfl | rfl | rfl | rfl
      · exact S1.free (bB.free hUp hU)
      · exact fr _ _ hT
      · exact S1.free (bF.free hMp hM)
      · exact S1.free (bH.free hAp hA)
def spNext (K : PySem.W.Frag) (C : Addr) : Sp := fun vs H Q _ => ∃ (p : Addr) (c : Ct) (tg : List (Nat × Nat)) (row : List Nat) (ups : List Bool) (outs : List Nat) (sp : List Sp1) (l b : Nat), vs = [.ref p, .int l, .int b] ∧ CtAt C H p c tg row ups outs sp ∧ b ≤ tg.length ∧ tg.length ≤ 100 ∧
  ∀ n, Fd tg l b n → Q (.int (n : Nat)) H
theorem k_Counter__next_toggle (D : DfM K (cAt mg "Counter") "next_toggle" "Counter.next_toggle" s_Counter__next_toggle ["self", "line", "begin"]) : DnM P w K mg base (cAt mg "Counter") 1 "next_toggle" ["self", "line", "begin"] (spNext K (cAt mg "Counter")) := by
  refine D.ok fun f fd F => okG0 F sc_Counter__next_toggle (fun vs H Q E h => ?_) (fun cdv A outer s H vs Q E hr h => ⟨_, (pss_cons (ps_while PassesOwn.never (PW.pt (pw_and (pt_cmpR op_lt (pv 2) (pe_callB (lenK (K := K)) (by rfl) B.len_ (by decide +kernel) (pa_cons (kk (K := K) (F := fun K => tFld K _ _) (P := PE _ _) (pe_fld (pv 0) rfl)) pa_nil)) (nomark _)) (pw_and1 (pt_cmpR (kk (K := K) (F := fun K => rIn K true) (P := OpR _ _) op_notIn_seq) (pv 1) (pe_ix (kk (K := K) (F := rIxL) (P := IxR _) ix_list) (kk (K := K) (F := fun K => tFld K _ _) (P := PE _ _) (pe_fld (pv 0) rfl)) (pv 2) (fun _ _ => rfl)) (by rfl)))))
      (pss_one (ps_set (i := 2) sc_Counter__next_toggle.nd rfl (Or.inl rfl) (pe_op op_add (pv 2) pe_int))))
    (pss_one (ps_ret (pv 2)))), ?_⟩)
  · obtain ⟨p, c, tg, row, ups, outs, sp, l, b, rfl, _⟩ := h; rfl
  · obtain ⟨p, c, tg, row, ups, outs, sp, l, b, rfl, hC, hb, ht, q⟩ := h
    have cl0 := B.Counter_.cl
    have nf := B.Counter_.no
    obtain ⟨ts, hP, hts⟩ := hC.pairs_
    have lt : (ts.map V.ref).length = tg.length := by rw [List.length_map, hts.1]
    refine ⟨fun m σ H2 => ∃ i : Nat, m = tg.length - i ∧ σ = [some (.ref p), some (.int (l : Nat)), some (.int (i : Nat))] ∧ H2 = H ∧ b ≤ i ∧ i ≤ tg.length ∧ ∀ j, b ≤ j → j < i → ¬ on tg l j, ⟨_, b, rfl, rfl, rfl, Nat.le_refl _, hb, fun j h1 h2 => absurd h1 (by omega)⟩, ?_⟩
    rintro m σ H2 ⟨i, rfl, rfl, rfl, h1, h2, h3⟩
    refine ⟨_, rfl, _, rfl, p, _, _, _, _, rfl, hC.ins_, cl0, nf _ (by decide +kernel), cf_pairs c, c.P, _, rfl, .inl (SqL.of hP), _, _, rfl, rfl, _, rfl, ite2 (fun c1 => ?_) (fun c1 => ?_)⟩
    · have hi : i < tg.length := by
        have := of_decide_eq_true c1
        rw [lt] at this
        omega
      have hi' : i < ts.length := by rw [hts.1]; exact hi
      have et := hts.2 i ts[i] (tg.getD i (0, 0)) (List.getElem?_eq_getElem hi') (by rw [List.getD_eq_getElem?_getD, List.getElem?_eq_getElem hi] <;> rfl)
      refine ⟨_, rfl, _, rfl, p, _, _, _, _, rfl, hC.ins_, cl0, nf _ (by decide +kernel), cf_pairs c, _, rfl, c.P, _, _, _, rfl, rfl, SqL.of hP, at_of (j := i) rfl (by rw [List.getElem?_map, List.getElem?_eq_getElem hi'] <;> rfl), ts[i], _, rfl, .inr (SqT.of et), rfl, rfl, _, rfl, ite2 (fun c2 => ?_) (fun c2 => ?_)⟩
      · have n2 : ¬ on tg l i := by
          intro o
          rw [in_pr, decide_eq_true (show l = _ ∨ l = _ from o)] at c2
          exact absurd c2 (by decide)
        refine ⟨fun σ' H' => ∃ i2 : Nat, tg.length - (i + 1) = tg.length - i2 ∧ σ' = [some (.ref p), some (.int (l : Nat)), some (.int (i2 : Nat))] ∧ H' = H2 ∧ b ≤ i2 ∧ i2 ≤ tg.length ∧ ∀ j, b ≤ j → j < i2 → ¬ on tg l j, fun σ' H' h => ⟨_, by omega, h⟩, ?_⟩
        refine ⟨_, rfl, _, _, rfl, rfl, i + 1, rfl, rfl, rfl, by omega, hi, fun j a1 a2 => ?_⟩
        by_cases e : j = i
        · rw [e]; exact n2
        · exact h3 j a1 (by omega)
      · refine ⟨_, rfl, q i ⟨h1, h2, h3, fun _ => ?_⟩⟩
        rw [in_pr] at c2
        exact Classical.byContradiction fun n => c2 (by rw [decide_eq_false (show ¬ (l = _ ∨ l = _) from n)] <;> rfl)
    · refine ⟨_, rfl, q i ⟨h1, h2, h3, fun h => absurd (decide_eq_true ?_) c1⟩⟩
      rw [lt]
      omega
def spOut (K : PySem.W.Frag) (C : Addr) : Sp := fun vs H Q _ => ∃ (p : Addr) (c : Ct) (tg : List (Nat × Nat)) (row : List Nat) (ups : List Bool) (outs : List Nat) (sp : List Sp1) (l t : Nat), vs = [.ref p, .int t, .int l] ∧ CtAt C H p c tg row ups outs sp ∧ t < sp.length ∧ l ∈ row ∧ row.length ≤ 8 ∧ (∀ n ∈ outs, n ≤ 1000) ∧
  ∀ (j : Nat) H', row.idxOf l = j → Bt c H H' → CtAt C H' p c tg row ups (outs.set j (outs.getD j 0 + 1)) (sp.set t (outs.getD j 0 * row.length + j, none)) → Q (.int ((outs.getD j 0 * row.length + j : Nat) : Int)) H'
theorem k_Counter__come_out (D : DfM K (cAt mg "Counter") "come_out" "Counter.come_out" s_Counter__come_out ["self", "token", "line"]) : DnM P w K mg base (cAt mg "Counter") 1 "come_out" ["self", "token", "line"] (spOut K (cAt mg "Counter")) := by
  refine D.ok fun f fd F => okG0 F sc_Counter__come_out (fun vs H Q E h => ?_) (fun cdv A outer s H vs Q E hr h => ⟨_, (pss_cons (ps_set (i := 3) sc_Counter__come_out.nd rfl (Or.inl rfl) (kk (K := K) (F := fun K => tBM K "list" _ _ _) (P := PE _ _) (pe_bm PySem.F.plainAttrs_list PySem.F.slot_list_index PySem.F.type_list_index mt_index (kk (K := K) (F := fun K => tFld K _ _) (P := PE _ _) (pe_fld (pv 0) rfl)) (pa_cons (pv 2) pa_nil))))
    (pss_cons (ps_set (i := 4) sc_Counter__come_out.nd rfl (Or.inl rfl) (pe_op op_add (pe_op op_mulX (pe_ix (kk (K := K) (F := rIxL) (P := IxR _) ix_list) (kk (K := K) (F := fun K => tFld K _ _) (P := PE _ _) (pe_fld (pv 0) rfl)) (pv 3) (fun _ _ => rfl)) (pe_callB (lenK (K := K)) (by rfl) B.len_ (by decide +kernel) (pa_cons (kk (K := K) (F := fun K => tFld K _ _) (P := PE _ _) (pe_fld (pv 0) rfl)) pa_nil))) (pv 3)))
    (pss_cons (ps_augS (kk (K := K) (F := fun K => tFld K _ _) (P := PE _ _) (pe_fld (pv 0) rfl)) (pv 3) get_listI pe_int ip_add set_list)
    (pss_cons (ps_asg (pe_tup (pa_cons (pv 4) (pa_cons (pe_glob (v := .int (-1)) (u := .int (-1) B.OUT_.choose) (by rfl) B.OUT_.choose_spec ⟨_, rfl⟩) pa_nil))) (pg_sub (kk (K := K) (F := fun K => tFld K _ _) (P := PE _ _) (pe_fld (pv 0) rfl)) (pv 1) set_list))
    (pss_one (ps_ret (pv 4))))))), ?_⟩)
  · obtain ⟨p, c, tg, row, ups, outs, sp, l, t, rfl, _⟩ := h; rfl
  · obtain ⟨p, c, tg, row, ups, outs, sp, l, t, rfl, hC, ht, hl, hr8, ho, q⟩ := h
    have cl0 := B.Counter_.cl
    have nf := B.Counter_.no
    obtain ⟨as, hA, hats⟩ := hC.ats_
    have la : (as.map V.ref).length = sp.length := by rw [List.length_map, hats.1]
    have lr : ((iN row).map V.int).length = row.length := iN_len
    obtain ⟨n1, n2, n3⟩ := hC.ne
    have hj := List.idxOf_lt_length_of_mem hl
    have ej := List.getElem_idxOf hj
    have hno : ∀ m : Nat, m < row.idxOf l → ∀ x, row[m]? = some x → x ≠ l := fun m hm x hx e => by
      rw [e] at hx
      exact absurd hm (Nat.not_lt.mpr (idx_le hx))
    generalize hjj : row.idxOf l = j at *
    have hjo : j < outs.length := by rw [hC.lo]; exact hj
    have gj : ((iN outs).map V.int)[j]? = some (.int (outs.getD j 0 : Nat)) := iN_at (getD_at hjo)
    have oj : outs.getD j 0 ≤ 1000 := ho _ (getD_mem hjo)
    refine ⟨_, rfl, p, _, _, _, _, rfl, hC.ins_, cl0, nf _ (by decide +kernel), cf_row c, .inl ⟨rfl, _, SqL.of hC.row_⟩, _, rfl, c.R, _, _, j, .int (l : Nat), rfl, rfl, SqL.of hC.row_, rfl, flat_iN, iN_at (by rw [List.getElem?_eq_getElem hj, ej]), eqV_int.2 rfl, ?_, ?_⟩
    · intro m z hm hz
      obtain ⟨x, rfl, hx⟩ := iN_mem hz
      exact eqV_intF (hno m hm x hx)
    refine ⟨_, rfl, p, _, _, _, _, rfl, hC.ins_, cl0, nf _ (by decide +kernel), cf_many c, _, rfl, c.M, _, _, _, rfl, rfl, SqL.of hC.outs_, at_of (j := j) rfl gj, _, rfl, p, _, _, _, _, rfl, hC.ins_, cl0, nf _ (by decide +kernel), cf_row c, c.R, _, rfl, .inl (SqL.of hC.row_), _, _, rfl, rfl, mulx 20 20 (by omega) (by rw [lr]; omega), _, rfl, _, _, rfl, rfl, ?_⟩
    refine ⟨_, rfl, p, _, _, _, _, rfl, hC.ins_, cl0, nf _ (by decide +kernel), cf_many c, _, rfl, c.M, _, _, _, rfl, rfl, SqL.of hC.outs_, at_of (j := j) rfl gj, ?_⟩
    refine ⟨_, _, rfl, rfl, c.M, _, _, j, rfl, rfl, hC.outs_, ixn (by rw [iN_len]; exact hjo), ?_⟩
    have bM := Bt.M (c := c) (H := H) (o := .lst (((iN outs).map V.int).set j (.int ((outs.getD j 0 : Nat) + 1))))
    have hM1 := upd_same (H := H) (a := c.M) (o := .lst (((iN outs).map V.int).set j (.int ((outs.getD j 0 : Nat) + 1))))
    have hU1 : upd H c.M (.lst (((iN outs).map V.int).set j (.int ((outs.getD j 0 : Nat) + 1)))) c.U = some (.lst (ups.map V.bl)) := by rw [upd_ne n1]; exact hC.ups_
    have hA1 : upd H c.M (.lst (((iN outs).map V.int).set j (.int ((outs.getD j 0 : Nat) + 1)))) c.A = some (.lst (as.map V.ref)) := by rw [upd_ne (Ne.symm n3)]; exact hA
    have es : ((iN outs).map V.int).set j (.int ((outs.getD j 0 : Nat) + 1)) = (iN (outs.set j (outs.getD j 0 + 1))).map V.int := by
      unfold iN
      rw [List.map_set, List.map_set] <;> rfl
    refine ⟨_, rfl, sz, fun t2 ht2 => ?_⟩
    dsimp only at ht2 ⊢
    generalize upd H c.M (.lst (((iN outs).map V.int).set j (.int ((outs.getD j 0 : Nat) + 1)))) = H1 at bM hM1 hU1 hA1 ht2 ⊢
    rw [es] at hM1
    have hC1 : CtAt (cAt mg "Counter") H1 p c tg row ups (outs.set j (outs.getD j 0 + 1)) sp := hC.mv bM hU1 hM1 ⟨as, hA1, hats.keep (hC.tk bM)⟩ rfl List.length_set
    have ef : (((outs.getD j 0 : Nat) : Int) * (((iN row).map V.int).length : Nat) + (j : Nat)) = ((outs.getD j 0 * row.length + j : Nat) : Int) := by rw [lr]; push_cast; rfl
    rw [ef]
    have S2 := same_new ht2 (.tup [.int ((outs.getD j 0 * row.length + j : Nat) : Int), .int (-1)])
    have hA2 := S2 _ _ hA1
    refine ⟨_, rfl, p, _, _, _, _, rfl, S2 _ _ hC1.ins_, cl0, nf _ (by decide +kernel), cf_at c, _, rfl, c.A, _, _, t, rfl, rfl, hA2, ixn (by rw [la]; exact ht), ?_⟩
    obtain ⟨H3, e3, b3, hA3, hU3, hM3, ht3⟩ : ∃ H3, H3 = upd (upd H1 t2 (.tup [.int ((outs.getD j 0 * row.length + j : Nat) : Int), .int (-1)])) c.A (.lst ((as.map V.ref).set t (.ref t2))) ∧ Bt c H1 H3 ∧ H3 c.A = some (.lst ((as.map V.ref).set t (.ref t2))) ∧ H3 c.U = some (.lst (ups.map V.bl)) ∧ H3 c.M = some (.lst ((iN (outs.set j (outs.getD j 0 + 1))).map V.int)) ∧ H3 t2 = some (.tup [.int ((outs.getD j 0 * row.length + j : Nat) : Int), .int (-1)]) :=
      ⟨_, rfl, (same_bt S2).trans Bt.A, upd_same, by rw [upd_ne n2]; exact S2 _ _ hU1, by rw [upd_ne n3]; exact S2 _ _ hM1, by rw [upd_ne (Ne.symm (ne_of_none hA1 ht2))]; exact upd_same⟩
    rw [← e3]
    exact ⟨_, rfl, q j H3 rfl (bM.trans b3) (hC1.mv b3 hU3 hM3 ⟨as.set t t2, by rw [hA3, List.map_set], ((hats.keep (hC.tk bM)).keep (hC1.tk b3)).set ht3⟩ rfl rfl)⟩
def spGo (K : PySem.W.Frag) (C : Addr) : Sp := fun vs H Q _ => ∃ (p : Addr) (c : Ct) (tg : List (Nat × Nat)) (row : List Nat) (ups : List Bool) (outs : List Nat) (sp : List Sp1) (l b t : Nat), vs = [.ref p, .int t] ∧ CtAt C H p c tg row ups outs sp ∧ sp[t]? = some (l, some b) ∧ b ≤ tg.length ∧ tg.length ≤ 100 ∧ sp.length ≤ 40 ∧ l ∈ row ∧ row.length ≤ 8 ∧ (∀ n ∈ outs, n ≤ 1000) ∧
  (∀ (j : Nat) H', Fd tg l b tg.length → row.idxOf l = j → Bt c H H' → CtAt C H' p c tg row ups (outs.set j (outs.getD j 0 + 1)) (sp.set t (outs.getD j 0 * row.length + j, none)) → Q (.int ((outs.getD j 0 * row.length + j : Nat) : Int)) H') ∧
  (∀ (n : Nat) H', n < tg.length → Fd tg l b n → Bt c H H' → CtAt C H' p c tg row (ups.set n (!ups.getD n true)) outs (sp.set t (if ups.getD n true = true then (tg.getD n (0, 0)).1 else (tg.getD n (0, 0)).2, some (n + 1))) → Q .non H')
theorem k_Counter__go (D : DfM K (cAt mg "Counter") "go" "Counter.go" s_Counter__go ["self", "token"]) (D_is_within : Dn P w K mg base 2 "is_within" ["thing", "least", "most"] spIsWithin) (D_Counter__next_toggle : DnM P w K mg base (cAt mg "Counter") 1 "next_toggle" ["self", "line", "begin"] (spNext K (cAt mg "Counter"))) (D_Counter__come_out : DnM P w K mg base (cAt mg "Counter") 1 "come_out" ["self", "token", "line"] (spOut K (cAt mg "Counter"))) : DnM P w K mg base (cAt mg "Counter") 5 "go" ["self", "token"] (spGo K (cAt mg "Counter")) := by
  refine D.ok fun f fd F => okG0 F sc_Counter__go (fun vs H Q E h => ?_) (fun cdv A outer s H vs Q E hr h => ⟨_, (pss_cons (ps_if (PW.pt (pw_or (pt_not (pt_val (pe_cD D_is_within (hr.less (by decide)) rfl (pa_cons (pv 1) (pa_cons pe_int (pa_cons (pe_op op_sub (pe_callB (lenK (K := K)) (by rfl) B.len_ (by decide +kernel) (pa_cons (kk (K := K) (F := fun K => tFld K _ _) (P := PE _ _) (pe_fld (pv 0) rfl)) pa_nil)) pe_int) pa_nil)))))) (pw_or1 (pt_cmpR op_eq (pe_ix (kk (K := K) (F := rIxT) (P := IxR _) ix_tup) (pe_ix (kk (K := K) (F := rIxL) (P := IxR _) ix_list) (kk (K := K) (F := fun K => tFld K _ _) (P := PE _ _) (pe_fld (pv 0) rfl)) (pv 1) (fun _ _ => rfl)) pe_int (fun _ _ => rfl)) (pe_glob (v := .int (-1)) (u := .int (-1) B.OUT_.choose) (by rfl) B.OUT_.choose_spec ⟨_, rfl⟩) (nomark _)))))
      (pss_one ps_never)
      pss_nil)
    (pss_cons (ps_asg (pe_ix (kk (K := K) (F := rIxL) (P := IxR _) ix_list) (kk (K := K) (F := fun K => tFld K _ _) (P := PE _ _) (pe_fld (pv 0) rfl)) (pv 1) (fun _ _ => rfl)) (kk (K := K) (F := fun K => gTup K 2 _) (P := PG _ _) (pg_tup rfl (pgs_cons (pg_name (i := 2) sc_Counter__go.nd rfl (Or.inl rfl)) (pgs_cons (pg_name (i := 3) sc_Counter__go.nd rfl (Or.inl rfl)) pgs_nil)))))
    (pss_cons (ps_set (i := 4) sc_Counter__go.nd rfl (Or.inl rfl) (pe_mG D_Counter__next_toggle B.Counter_.cl (hr.less (by decide)) (pv 0) (pa_cons (pv 2) (pa_cons (pv 3) pa_nil))))
    (pss_cons (ps_if (pt_cmpR op_eq (pv 4) (pe_callB (lenK (K := K)) (by rfl) B.len_ (by decide +kernel) (pa_cons (kk (K := K) (F := fun K => tFld K _ _) (P := PE _ _) (pe_fld (pv 0) rfl)) pa_nil)) (nomark _))
      (pss_one (ps_ret (pe_mG D_Counter__come_out B.Counter_.cl (hr.less (by decide)) (pv 0) (pa_cons (pv 1) (pa_cons (pv 2) pa_nil)))))
      pss_nil)
    (pss_cons (ps_set (i := 5) sc_Counter__go.nd rfl (Or.inl rfl) (pe_ix (kk (K := K) (F := rIxL) (P := IxR _) ix_list) (kk (K := K) (F := fun K => tFld K _ _) (P := PE _ _) (pe_fld (pv 0) rfl)) (pv 4) (fun _ _ => rfl)))
    (pss_cons (ps_asg (pe_tup (pa_cons (pe_ix (kk (K := K) (F := rIxT) (P := IxR _) ix_tup) (pv 5) (pe_callTy call_int1 (by rfl) B.int_ (by decide +kernel) (pa_cons (pe_not (pe_ix (kk (K := K) (F := rIxL) (P := IxR _) ix_list) (kk (K := K) (F := fun K => tFld K _ _) (P := PE _ _) (pe_fld (pv 0) rfl)) (pv 4) (fun _ _ => rfl))) pa_nil)) (fun _ _ => rfl)) (pa_cons (pe_op op_add (pv 4) pe_int) pa_nil))) (pg_sub (kk (K := K) (F := fun K => tFld K _ _) (P := PE _ _) (pe_fld (pv 0) rfl)) (pv 1) set_list))
    (pss_cons (ps_asg (pe_not (pe_ix (kk (K := K) (F := rIxL) (P := IxR _) ix_list) (kk (K := K) (F := fun K => tFld K _ _) (P := PE _ _) (pe_fld (pv 0) rfl)) (pv 4) (fun _ _ => rfl))) (pg_sub (kk (K := K) (F := fun K => tFld K _ _) (P := PE _ _) (pe_fld (pv 0) rfl)) (pv 4) set_list))
    (pss_one (ps_ret pe_non))))))))), ?_⟩)
  · obtain ⟨p, c, tg, row, ups, outs, sp, l, b, t, rfl, _⟩ := h; rfl
  · obtain ⟨p, c, tg, row, ups, outs, sp, l, b, t, rfl, hC, ht, hb, htg, hs, hl, hr8, ho, q1, q2⟩ := h
    have cl0 := B.Counter_.cl
    have nf := B.Counter_.no
    obtain ⟨as, hA, hats⟩ := hC.ats_
    obtain ⟨ts, hP, hts⟩ := hC.pairs_
    have la : (as.map V.ref).length = sp.length := by rw [List.length_map, hats.1]
    have lt : (ts.map V.ref).length = tg.length := by rw [List.length_map, hts.1]
    obtain ⟨n1, n2, n3⟩ := hC.ne
    have htl : t < sp.length := (List.getElem?_eq_some_iff.mp ht).1
    have hta : t < as.length := by rw [hats.1]; exact htl
    have etx : H as[t] = some (.tup [.int (l : Nat), .int (b : Nat)]) := hats.2 t as[t] _ (List.getElem?_eq_getElem hta) ht
    have gt : (as.map V.ref)[t]? = some (.ref as[t]) := by rw [List.getElem?_map, List.getElem?_eq_getElem hta] <;> rfl
    refine ⟨_, rfl, _, rfl, p, _, _, _, _, rfl, hC.ins_, cl0, nf _ (by decide +kernel), cf_at c, c.A, _, rfl, .inl (SqL.of hA), _, _, rfl, rfl, _, _, _, rfl, by omega, by rw [la]; omega, _, rfl, ?_⟩
    refine ite2 (fun c0 => absurd c0 (by decide)) (fun _ => ?_)
    refine ⟨_, rfl, p, _, _, _, _, rfl, hC.ins_, cl0, nf _ (by decide +kernel), cf_at c, _, rfl, c.A, _, _, _, rfl, rfl, SqL.of hA, at_of (j := t) rfl gt, as[t], _, _, _, rfl, rfl, SqT.of etx, at_of (j := 1) rfl rfl, rfl, _, rfl, ?_⟩
    refine ite2 (fun c1 => absurd (V.int.inj (of_decide_eq_true c1)) (by omega)) (fun _ => ?_)
    refine ⟨_, rfl, p, _, _, _, _, rfl, hC.ins_, cl0, nf _ (by decide +kernel), cf_at c, _, rfl, c.A, _, _, _, rfl, rfl, SqL.of hA, at_of (j := t) rfl gt, as[t], _, rfl, SqT.of etx, rfl, _, _, rfl, _, _, rfl, rfl, ?_⟩
    refine ⟨_, rfl, p, _, _, rfl, hC.ins_, cf_no c (by decide +kernel) (by decide +kernel) (by decide +kernel) (by decide +kernel) (by decide +kernel), _, rfl, _, rfl, p, c, tg, row, ups, outs, sp, l, b, rfl, hC, hb, htg, fun n hn => ?_⟩
    refine ⟨_, rfl, _, rfl, p, _, _, _, _, rfl, hC.ins_, cl0, nf _ (by decide +kernel), cf_pairs c, c.P, _, rfl, .inl (SqL.of hP), rfl, _, rfl, ite2 (fun c2 => ?_) (fun c2 => ?_)⟩
    · have e2 : n = tg.length := by
        have := V.int.inj (of_decide_eq_true c2)
        rw [lt] at this
        omega
      subst e2
      exact ⟨_, rfl, p, _, _, rfl, hC.ins_, cf_no c (by decide +kernel) (by decide +kernel) (by decide +kernel) (by decide +kernel) (by decide +kernel), _, rfl, _, rfl, p, c, tg, row, ups, outs, sp, l, t, rfl, hC, htl, hl, hr8, ho, fun j H' ej b h => q1 j H' hn ej b h⟩
    · have hnl : n < tg.length := by
        have h1 := hn.hi
        rcases Nat.lt_or_ge n tg.length with h2 | h2
        · exact h2
        · exact absurd (decide_eq_true (by rw [lt, show n = tg.length by omega])) c2
      have hnt : n < ts.length := by rw [hts.1]; exact hnl
      have hnu : n < ups.length := by rw [hC.lu]; exact hnl
      have etp := hts.2 n ts[n] (tg.getD n (0, 0)) (List.getElem?_eq_getElem hnt) (by rw [List.getD_eq_getElem?_getD, List.getElem?_eq_getElem hnl] <;> rfl)
      have gp : (ts.map V.ref)[n]? = some (.ref ts[n]) := by rw [List.getElem?_map, List.getElem?_eq_getElem hnt] <;> rfl
      have gu : (ups.map V.bl)[n]? = some (.bl (ups.getD n true)) := by rw [List.getElem?_map, List.getD_eq_getElem?_getD, List.getElem?_eq_getElem hnu] <;> rfl
      have hq2 := q2 n
      generalize tg.getD n (0, 0) = pr at etp hq2
      obtain ⟨x, y⟩ := pr
      generalize ups.getD n true = u at gu hq2
      obtain ⟨z, hz, ez⟩ : ∃ z : Nat, atI ([.int (x : Nat), .int (y : Nat)] : List V) (if (!u) = true then 1 else 0) = some (.int (z : Nat)) ∧ (if u = true then x else y) = z := by
        cases u
        · exact ⟨y, rfl, rfl⟩
        · exact ⟨x, rfl, rfl⟩
      simp only [ez] at hq2
      refine ⟨_, rfl, p, _, _, _, _, rfl, hC.ins_, cl0, nf _ (by decide +kernel), cf_pairs c, _, rfl, c.P, _, _, _, rfl, rfl, SqL.of hP, at_of (j := n) rfl gp, ?_⟩
      refine ⟨_, rfl, _, rfl, p, _, _, _, _, rfl, hC.ins_, cl0, nf _ (by decide +kernel), cf_ups c, _, rfl, c.U, _, _, _, rfl, rfl, SqL.of hC.ups_, at_of (j := n) rfl gu, _, rfl, .inr ⟨_, rfl, ts[n], _, _, _, rfl, rfl, SqT.of etp, hz, _, rfl, _, _, rfl, rfl, sz, fun t2 ht2 => ?_⟩⟩
      dsimp only at ht2 ⊢
      have S2 := same_new ht2 (.tup [.int (z : Nat), .int ((n : Int) + 1)])
      have hA2 := S2 _ _ hA
      refine ⟨_, rfl, p, _, _, _, _, rfl, S2 _ _ hC.ins_, cl0, nf _ (by decide +kernel), cf_at c, _, rfl, c.A, _, _, t, rfl, rfl, hA2, ixn (by rw [la]; exact htl), ?_⟩
      obtain ⟨H3, e3, b3, hA3, hU3, hM3, ht3⟩ : ∃ H3, H3 = upd (upd H t2 (.tup [.int (z : Nat), .int ((n : Int) + 1)])) c.A (.lst ((as.map V.ref).set t (.ref t2))) ∧ Bt c H H3 ∧ H3 c.A = some (.lst ((as.map V.ref).set t (.ref t2))) ∧ H3 c.U = some (.lst (ups.map V.bl)) ∧ H3 c.M = some (.lst ((iN outs).map V.int)) ∧ H3 t2 = some (.tup [.int (z : Nat), .int ((n : Int) + 1)]) :=
        ⟨_, rfl, (same_bt S2).trans Bt.A, upd_same, by rw [upd_ne n2]; exact S2 _ _ hC.ups_, by rw [upd_ne n3]; exact S2 _ _ hC.outs_, by rw [upd_ne (Ne.symm (ne_of_none hA ht2))]; exact upd_same⟩
      rw [← e3]
      have hC3 : CtAt (cAt mg "Counter") H3 p c tg row ups outs (sp.set t (z, some (n + 1))) := hC.mv b3 hU3 hM3 ⟨as.set t t2, by rw [hA3, List.map_set], (hats.keep (hC.tk b3)).set ht3⟩ rfl rfl
      refine ⟨_, rfl, p, _, _, _, _, rfl, hC3.ins_, cl0, nf _ (by decide +kernel), cf_ups c, _, rfl, c.U, _, _, _, rfl, rfl, SqL.of hU3, at_of (j := n) rfl gu, _, rfl, _, rfl, p, _, _, _, _, rfl, hC3.ins_, cl0, nf _ (by decide +kernel), cf_ups c, _, rfl, c.U, _, _, n, rfl, rfl, hU3, ixn (by rw [List.length_map]; exact hnu), ?_⟩
      have b4 := Bt.U (c := c) (H := H3) (o := .lst ((ups.map V.bl).set n (.bl (!u))))
      refine hq2 _ hnl hn (b3.trans b4) (hC3.mv b4 (by rw [upd_same, List.map_set]) (by rw [upd_ne (Ne.symm n1)]; exact hM3) ?_ List.length_set rfl)
      obtain ⟨as3, a1, a2⟩ := hC3.ats_
      exact ⟨as3, by rw [upd_ne (Ne.symm n2)]; exact a1, a2.keep (hC3.tk b4)⟩
def spOuts (K : PySem.W.Frag) (C : Addr) : Sp := fun vs H Q _ => ∃ (p : Addr) (c : Ct) (tg : List (Nat × Nat)) (row : List Nat) (ups : List Bool) (outs : List Nat) (sp : List Sp1), vs = [.ref p] ∧ CtAt C H p c tg row ups outs sp ∧ 
  ∀ U H', Same H H' → H' U = some (.tup ((iN outs).map V.int)) → Q (.ref U) H'
theorem k_Counter__outs (D : DfM K (cAt mg "Counter") "outs" "Counter.outs" s_Counter__outs ["self"]) : DnM P w K mg base (cAt mg "Counter") 1 "outs" ["self"] (spOuts K (cAt mg "Counter")) := by
  refine D.ok fun f fd F => okG0 F sc_Counter__outs (fun vs H Q E h => ?_) (fun cdv A outer s H vs Q E hr h => ⟨_, (pss_one (ps_ret (pe_callTy (tupOfK (K := K)) (by rfl) B.tuple_ (by decide +kernel) (pa_cons (kk (K := K) (F := fun K => tFld K _ _) (P := PE _ _) (pe_fld (pv 0) rfl)) pa_nil)))), ?_⟩)
  · obtain ⟨p, c, tg, row, ups, outs, sp, rfl, _⟩ := h; rfl
  · obtain ⟨p, c, tg, row, ups, outs, sp, rfl, hC, q⟩ := h
    refine ⟨_, rfl, p, _, _, _, _, rfl, hC.ins_, B.Counter_.cl, B.Counter_.no _ (by decide +kernel), cf_many c, ?_⟩
    exact ⟨c.M, _, rfl, .inl ⟨SqL.of hC.outs_, fun U hU => q U _ (same_new hU _) upd_same⟩⟩
def spInside (K : PySem.W.Frag) (C : Addr) : Sp := fun vs H Q _ => ∃ (p : Addr) (c : Ct) (tg : List (Nat × Nat)) (row : List Nat) (ups : List Bool) (outs : List Nat) (sp : List Sp1), vs = [.ref p] ∧ CtAt C H p c tg row ups outs sp ∧ Q (.int ((sp.length : Nat) - (iN outs).sum)) H
theorem k_Counter__inside (D : DfM K (cAt mg "Counter") "inside" "Counter.inside" s_Counter__inside ["self"]) : DnM P w K mg base (cAt mg "Counter") 1 "inside" ["self"] (spInside K (cAt mg "Counter")) := by
  refine D.ok fun f fd F => okG0 F sc_Counter__inside (fun vs H Q E h => ?_) (fun cdv A outer s H vs Q E hr h => ⟨_, (pss_one (ps_ret (pe_op op_sub (pe_callB (lenK (K := K)) (by rfl) B.len_ (by decide +kernel) (pa_cons (kk (K := K) (F := fun K => tFld K _ _) (P := PE _ _) (pe_fld (pv 0) rfl)) pa_nil)) (pe_callB (kk (K := K) (F := rSum) (P := CallR _ _) (cr_sum rfl)) (by rfl) B.sum_ (by decide +kernel) (pa_cons (kk (K := K) (F := fun K => tFld K _ _) (P := PE _ _) (pe_fld (pv 0) rfl)) pa_nil))))), ?_⟩)
  · obtain ⟨p, c, tg, row, ups, outs, sp, rfl, _⟩ := h; rfl
  · obtain ⟨p, c, tg, row, ups, outs, sp, rfl, hC, q⟩ := h
    have cl0 := B.Counter_.cl
    have nf := B.Counter_.no
    obtain ⟨as, hA, hats⟩ := hC.ats_
    have la : (as.map V.ref).length = sp.length := by rw [List.length_map, hats.1]
    refine ⟨_, rfl, p, _, _, _, _, rfl, hC.ins_, cl0, nf _ (by decide +kernel), cf_at c, c.A, _, rfl, .inl (SqL.of hA), _, rfl, p, _, _, _, _, rfl, hC.ins_, cl0, nf _ (by decide +kernel), cf_many c, c.M, _, rfl, SqL.of hC.outs_, _, _, rfl, rfl, ?_⟩
    rw [la]
    exact q
def spTold (K : PySem.W.Frag) (C : Addr) : Sp := fun vs H Q _ => ∃ (p : Addr) (c : Ct) (tg : List (Nat × Nat)) (row : List Nat) (ups : List Bool) (outs : List Nat) (sp : List Sp1), vs = [.ref p] ∧ CtAt C H p c tg row ups outs sp ∧ sp.length ≤ 40 ∧
  ∀ (ns : List Int) U H', ns.Perm (iN (tolds sp)) → ns.Pairwise (· ≤ ·) → Same H H' → H' U = some (.tup (ns.map V.int)) → Q (.ref U) H'
theorem k_Counter__told (D : DfM K (cAt mg "Counter") "told" "Counter.told" s_Counter__told ["self"]) : DnM P w K mg base (cAt mg "Counter") 1 "told" ["self"] (spTold K (cAt mg "Counter")) := by
  refine D.ok fun f fd F => okG0 F sc_Counter__told (fun vs H Q E h => ?_) (fun cdv A outer s H vs Q E hr h => ⟨_, (pss_one (ps_ret (pe_callTy (tupOfK (K := K)) (by rfl) B.tuple_ (by decide +kernel) (pa_cons (pe_callB (kk (K := K) (F := rSortedI) (P := CallR _ _) cr_sortedI) (by rfl) B.sorted_ (by decide +kernel) (pa_cons (pe_lc (own := [("found", 1), ("number", 2)]) rfl sc_Counter__told.nd (kk (K := K) (F := fun K => iList K _) (P := PI _ _ _) (pi_list (kk (K := K) (F := fun K => tFld K _ _) (P := PE _ _) (pe_fld (pv 0) rfl)))) (blkOk_by (own := [("found", 1), ("number", 2)]) (N := ["self", "found", "number"]) (sc := defScope s_Counter__told) (by decide +kernel)) (fun _ _ _ _ _ => (kk (K := K) (F := fun K => gTup K 2 _) (P := PG _ _) (pg_tup rfl (pgs_cons (pg_name (i := 1) sc_Counter__told.nd rfl (Or.inl rfl)) (pgs_cons (pg_name (i := 2) sc_Counter__told.nd rfl (Or.inl rfl)) pgs_nil))))) (fun _ _ _ _ _ => (pts_one (pt_cmpR op_eq (pv 2) (pe_glob (v := .int (-1)) (u := .int (-1) B.OUT_.choose) (by rfl) B.OUT_.choose_spec ⟨_, rfl⟩) (nomark _)))) (fun _ _ _ _ _ => (pv 1))) pa_nil)) pa_nil)))), ?_⟩)
  · obtain ⟨p, c, tg, row, ups, outs, sp, rfl, _⟩ := h; rfl
  · obtain ⟨p, c, tg, row, ups, outs, sp, rfl, hC, hs, q⟩ := h
    have cl0 := B.Counter_.cl
    have nf := B.Counter_.no
    obtain ⟨as, hA, hats⟩ := hC.ats_
    have la : (as.map V.ref).length = sp.length := by rw [List.length_map, hats.1]
    have tk : ∀ H', Same H H' → ∀ (i : Nat) (t : Addr), as[i]? = some t → ∃ (l : Nat) (b : Option Nat), sp[i]? = some (l, b) ∧ H' t = some (.tup [.int (l : Nat), .int (match b with | some b => ((b : Nat) : Int) | none => -1)]) := by
      intro H' S i t ht
      have hi : i < sp.length := by rw [← hats.1]; exact (List.getElem?_eq_some_iff.mp ht).1
      have g := hats.2 i t sp[i] ht (List.getElem?_eq_getElem hi)
      have e : sp[i]? = some sp[i] := List.getElem?_eq_getElem hi
      generalize sp[i] = s at g e
      obtain ⟨l, b⟩ := s
      refine ⟨l, b, e, ?_⟩
      cases b with
      | some b => exact S _ _ g
      | none => exact S _ _ g
    refine ⟨_, rfl, p, _, _, _, _, rfl, hC.ins_, cl0, nf _ (by decide +kernel), cf_at c, c.A, rfl, ⟨_, SqL.of hA⟩, fun D hD => ?_⟩
    refine lc_list (K := K) (a := c.A) (xs := as.map V.ref) (fun i H' => Same H H' ∧ H' D = some (.lst ((iN (tolds (sp.take i))).map V.int))) ⟨same_new hD _, upd_same⟩ (fun i H' _ h => SqL.of (h.1 _ _ hA)) ?_ ?_
    · rintro i x H' hx ⟨S1, hD1⟩
      rw [List.getElem?_map] at hx
      obtain ⟨t, ht, rfl⟩ := Option.map_eq_some_iff.mp hx
      obtain ⟨l, b, e1, e2⟩ := tk H' S1 i t ht
      have hi : i < sp.length := (List.getElem?_eq_some_iff.mp e1).1
      have et : sp.take (i + 1) = sp.take i ++ [(l, b)] := by rw [List.take_succ, e1] <;> rfl
      have lt : (tolds (sp.take i)).length ≤ 40 := by
        refine Nat.le_trans (List.length_filterMap_le _ _) ?_
        rw [List.length_take]; omega
      refine ⟨t, _, rfl, SqT.of e2, rfl, _, _, rfl, _, _, rfl, rfl, rfl, _, rfl, rfl, _, rfl, ite2 (fun c1 => ?_) (fun c1 => ?_)⟩
      · have hb : b = none := by
          have := V.int.inj (of_decide_eq_true c1)
          cases b with
          | none => rfl
          | some b => exact absurd this (by show ¬ ((b : Int) = -1); omega)
        subst hb
        refine ⟨_, rfl, _, hD1, small1000 (by rw [iN_len]; omega), but_same hD S1 But.upd, ?_⟩
        rw [upd_same, iN_snoc, et, tolds_snoc] <;> rfl
      · have hb : b ≠ none := fun z => by
          subst z
          exact c1 (decide_eq_true rfl)
        refine ⟨S1, ?_⟩
        rw [hD1, et, tolds_snoc, if_neg hb, List.append_nil]
    · rintro H' ⟨S1, hD1⟩
      rw [la, List.take_length] at hD1
      refine ⟨D, _, rfl, SqL.of hD1, fun ns' p' h1 h2 h3 => ⟨p', _, rfl, .inl ⟨SqL.of upd_same, fun U hU => q ns' U _ h1 h2 (S1.trans ((same_new h3 _).trans (same_new hU _))) upd_same⟩⟩⟩
def spCome (K : PySem.W.Frag) (C T : Addr) : Sp := fun vs H Q E => ∃ (p : Addr) (c : Ct) (tg : List (Nat × Nat)) (row : List Nat) (ups : List Bool) (outs : List Nat) (sp : List Sp1) (l : Nat), vs = [.ref p, .int l] ∧ CtAt C H p c tg row ups outs sp ∧ l < row.length ∧ sp.length ≤ 40 ∧
  (sp.length < 40 → ∀ H', Bt c H H' → CtAt C H' p c tg row ups outs (sp ++ [(l, some 0)]) → Q (.int (sp.length : Nat)) H') ∧ (sp.length = 40 → E (.ref T) none H)
theorem k_Counter__come (D : DfM K (cAt mg "Counter") "come" "Counter.come" s_Counter__come ["self", "line"]) (D_is_within : Dn P w K mg base 2 "is_within" ["thing", "least", "most"] spIsWithin) : DxM P w K mg base (cAt mg "Counter") 5 "come" ["self", "line"] (spCome K (cAt mg "Counter") (cAt mg "TooMany")) := by
  refine D.okX fun f fd F => okGX F sc_Counter__come (fun vs H Q E h => ?_) (fun cdv A outer s H vs Q E hr h => ⟨_, (pss_cons (ps_if (pt_not (pt_val (pe_cD D_is_within (hr.less (by decide)) rfl (pa_cons (pv 1) (pa_cons pe_int (pa_cons (pe_op op_sub (pe_callB (lenK (K := K)) (by rfl) B.len_ (by decide +kernel) (pa_cons (kk (K := K) (F := fun K => tFld K _ _) (P := PE _ _) (pe_fld (pv 0) rfl)) pa_nil)) pe_int) pa_nil))))))
      (pss_one ps_never)
      pss_nil)
    (pss_cons (ps_if (pt_cmpR op_eq (pe_callB (lenK (K := K)) (by rfl) B.len_ (by decide +kernel) (pa_cons (kk (K := K) (F := fun K => tFld K _ _) (P := PE _ _) (pe_fld (pv 0) rfl)) pa_nil)) (pe_glob (v := .int (40)) (u := .int (40) B.MOST_TOKENS_.choose) (by rfl) B.MOST_TOKENS_.choose_spec ⟨_, rfl⟩) (nomark _))
      (pss_one (ps_raise rfl (takes_of rfl rfl rfl rfl) (pmk_own PySem.F.excBase_ValueError B.TooMany_.ex B.TooMany_.mg_ B.TooMany_.kp (raises_own B.TooMany_.bs B.TooMany_.tp) rfl)))
      pss_nil)
    (pss_cons (ps_expr (kk (K := K) (F := fun K => tBM K "list" _ _ _) (P := PE _ _) (pe_bm PySem.F.plainAttrs_list PySem.F.slot_list_append PySem.F.type_list_append mt_append (kk (K := K) (F := fun K => tFld K _ _) (P := PE _ _) (pe_fld (pv 0) rfl)) (pa_cons (pe_tup (pa_cons (pv 1) (pa_cons pe_int pa_nil))) pa_nil))))
    (pss_one (ps_ret (pe_op op_sub (pe_callB (lenK (K := K)) (by rfl) B.len_ (by decide +kernel) (pa_cons (kk (K := K) (F := fun K => tFld K _ _) (P := PE _ _) (pe_fld (pv 0) rfl)) pa_nil)) pe_int)))))), ?_⟩)
  · obtain ⟨p, c, tg, row, ups, outs, sp, l, rfl, _⟩ := h; rfl
  · obtain ⟨p, c, tg, row, ups, outs, sp, l, rfl, hC, hl, hs, q, q2⟩ := h
    have cl0 := B.Counter_.cl
    have nf := B.Counter_.no
    obtain ⟨as, hA, hats⟩ := hC.ats_
    have lr : ((iN row).map V.int).length = row.length := iN_len
    have la : (as.map V.ref).length = sp.length := by rw [List.length_map, hats.1]
    refine ⟨_, rfl, _, rfl, p, _, _, _, _, rfl, hC.ins_, cl0, nf _ (by decide +kernel), cf_row c, c.R, _, rfl, .inl (SqL.of hC.row_), _, _, rfl, rfl, _, _, _, rfl, by omega, by rw [lr]; omega, _, rfl, ?_⟩
    refine ite2 (fun c0 => absurd c0 (by decide)) (fun _ => ?_)
    refine ⟨_, rfl, p, _, _, _, _, rfl, hC.ins_, cl0, nf _ (by decide +kernel), cf_at c, c.A, _, rfl, .inl (SqL.of hA), rfl, _, rfl, ite2 (fun c1 => q2 (by have := V.int.inj (of_decide_eq_true c1); rw [la] at this; omega)) (fun c1 => ?_)⟩
    have hs : sp.length < 40 := by
      refine Nat.lt_of_le_of_ne hs fun z => c1 (decide_eq_true ?_)
      rw [la, z] <;> rfl
    refine ⟨_, rfl, p, _, _, _, _, rfl, hC.ins_, cl0, nf _ (by decide +kernel), cf_at c, .inl ⟨rfl, _, SqL.of hA⟩, _, rfl, sz, fun t ht => ?_⟩
    have S1 := same_new ht (.tup [.int (l : Nat), .int 0])
    have hC1 := hC.same S1
    have tA : c.A ≠ t := ne_of_none hA ht
    refine ⟨c.A, _, _, rfl, rfl, S1 _ _ hA, small (by rw [la]; omega), ?_⟩
    have b2 := (same_bt S1).trans (Bt.A (c := c) (H := upd H t (.tup [.int (l : Nat), .int 0])) (o := .lst (as.map V.ref ++ [.ref t])))
    have hA2 := upd_same (H := upd H t (.tup [.int (l : Nat), .int 0])) (a := c.A) (o := .lst (as.map V.ref ++ [.ref t]))
    obtain ⟨n1, n2, n3⟩ := hC.ne
    have hU2 : upd (upd H t (.tup [.int (l : Nat), .int 0])) c.A (.lst (as.map V.ref ++ [.ref t])) c.U = some (.lst (ups.map V.bl)) := by rw [upd_ne n2]; exact S1 _ _ hC.ups_
    have hM2 : upd (upd H t (.tup [.int (l : Nat), .int 0])) c.A (.lst (as.map V.ref ++ [.ref t])) c.M = some (.lst ((iN outs).map V.int)) := by rw [upd_ne n3]; exact S1 _ _ hC.outs_
    have ht2 : upd (upd H t (.tup [.int (l : Nat), .int 0])) c.A (.lst (as.map V.ref ++ [.ref t])) t = some (.tup [.int (l : Nat), .int 0]) := by rw [upd_ne (Ne.symm tA)]; exact upd_same
    generalize upd (upd H t (.tup [.int (l : Nat), .int 0])) c.A (.lst (as.map V.ref ++ [.ref t])) = H2 at b2 hA2 hU2 hM2 ht2 ⊢
    have hC2 : CtAt (cAt mg "Counter") H2 p c tg row ups outs (sp ++ [(l, some 0)]) := hC.mv b2 hU2 hM2 ⟨as ++ [t], by rw [hA2, List.map_append] <;> rfl, (hats.keep (hC.tk b2)).snoc ht2⟩ rfl rfl
    refine ⟨_, rfl, p, _, _, _, _, rfl, hC2.ins_, cl0, nf _ (by decide +kernel), cf_at c, c.A, _, rfl, .inl (SqL.of hA2), _, _, rfl, rfl, ?_⟩
    refine qi (q hs H2 b2 hC2) ?_
    rw [List.length_append, la]
    show ((sp.length : Nat) : Int) = ((sp.length + 1 : Nat) : Int) - 1
    omega
omit B in
theorem menu4 {a b c d : Int} : ∀ j : Nat, j < 4 → ∃ z : Int, ([.int a, .int b, .int c, .int d] : List V)[j]? = some (.int z) ∧ (z = a ∨ z = b ∨ z = c ∨ z = d)
  | 0, _ => ⟨_, rfl, .inl rfl⟩
  | 1, _ => ⟨_, rfl, .inr (.inl rfl)⟩
  | 2, _ => ⟨_, rfl, .inr (.inr (.inl rfl))⟩
  | 3, _ => ⟨_, rfl, .inr (.inr (.inr rfl))⟩
  | n + 4, h => absurd h (by omega)
/-! ### the law's own draws -/
def spCell (K : PySem.W.Frag) : Sp := fun vs H Q _ => ∃ (a : Addr) (ns : List Int) (k : Nat), vs = [.ref a, .int k] ∧ SqL K H a (ns.map V.int) ∧ ∀ c : Int, Q (.int c) H
theorem k__law_cell (D : Df K mg "_law_cell" s__law_cell ["_law_script", "_law_k"]) : Dn P w K mg base 1 "_law_cell" ["_law_script", "_law_k"] (spCell K) := by
  refine D.ok fun f fd F => okG0 F sc__law_cell (fun vs H Q E h => ?_) (fun cdv A outer s H vs Q E hr h => ⟨_, (pss_cons (ps_if (pt_cmpR op_lt (pv 1) (pe_callB (lenK (K := K)) (by rfl) B.len_ (by decide +kernel) (pa_cons (pv 0) pa_nil)) (nomark _))
      (pss_one (ps_ret (pe_ix (kk (K := K) (F := rIxL) (P := IxR _) ix_list) (pv 0) (pv 1) (fun _ _ => rfl))))
      pss_nil)
    (pss_one (ps_ret pe_int))), ?_⟩)
  · obtain ⟨a, ns, k, rfl, _⟩ := h; rfl
  · obtain ⟨a, ns, k, rfl, hs, q⟩ := h
    refine ⟨_, rfl, _, rfl, a, _, rfl, .inl hs, _, _, rfl, rfl, _, rfl, ite2 (fun c => ?_) (fun c => ?_)⟩
    · have c' : (k : Int) < ((ns.map V.int).length : Nat) := of_decide_eq_true c
      have hk2 : k < ns.length := by rw [List.length_map] at c'; omega
      exact ⟨_, rfl, _, rfl, a, _, _, _, rfl, rfl, hs, at_of (j := k) rfl (by rw [List.getElem?_map, List.getElem?_eq_getElem hk2] <;> rfl), q _⟩
    · exact q 0
def spPot (K : PySem.W.Frag) : Sp := fun vs H Q _ => ∃ (a : Addr) (ns : List Int) (k : Nat), vs = [.ref a, .int k] ∧ SqL K H a (ns.map V.int) ∧ k ≤ 60 ∧ ∀ p H', H p = none → Same H H' → PotAt H' p → Q (.ref p) H'
theorem k__law_pot (D : Df K mg "_law_pot" s__law_pot ["_law_script", "_law_k"]) (D__law_cell : Dn P w K mg base 1 "_law_cell" ["_law_script", "_law_k"] (spCell K)) : Dn P w K mg base 2 "_law_pot" ["_law_script", "_law_k"] (spPot K) := by
  refine D.ok fun f fd F => okG0 F sc__law_pot (fun vs H Q E h => ?_) (fun cdv A outer s H vs Q E hr h => ⟨_, (pss_cons (ps_set (i := 2) sc__law_pot.nd rfl (Or.inl rfl) (pe_cD D__law_cell (hr.less (by decide)) rfl (pa_cons (pv 0) (pa_cons (pv 1) pa_nil))))
    (pss_cons (ps_set (i := 3) sc__law_pot.nd rfl (Or.inl rfl) (pe_op op_mod (pe_op op_mulX (pe_op op_add (pe_op op_mod (pv 2) pe_int) pe_int) pe_int) pe_int))
    (pss_one (ps_ret (pe_lst (pa_cons (pe_callB (call_max2 rfl) (by rfl) B.max_ (by decide +kernel) (pa_cons pe_int (pa_cons (pe_op op_sub (pv 2) (pe_op op_pow pe_int pe_int)) pa_nil))) (pa_cons (pe_op op_add (pe_op op_mod (pe_op op_add (pe_op op_mulX (pv 3) (pv 3)) (pe_op op_mulX pe_int (pv 1))) pe_int) pe_int) pa_nil))))))), ?_⟩)
  · obtain ⟨a, ns, k, rfl, _⟩ := h; rfl
  · obtain ⟨a, ns, k, rfl, hs, hk, q⟩ := h
    refine ⟨_, rfl, _, rfl, a, ns, k, rfl, hs, fun c => ?_⟩
    have m1 := Int.emod_nonneg c (by decide : (2147483629 : Int) ≠ 0)
    have m2 := Int.emod_lt_of_pos c (by decide : (0 : Int) < 2147483629)
    refine ⟨_, rfl, _, _, rfl, rfl, pj, _, _, rfl, rfl, _, _, rfl, rfl, mulx 32 16 (by omega) (by decide), _, _, rfl, rfl, pj, ?_⟩
    have g1 := Int.emod_nonneg ((c % 2147483629 + 1) * 48271) (by decide : (2147483647 : Int) ≠ 0)
    have g2 := Int.emod_lt_of_pos ((c % 2147483629 + 1) * 48271) (by decide : (0 : Int) < 2147483647)
    generalize (c % 2147483629 + 1) * 48271 % 2147483647 = g at g1 g2
    refine ⟨_, rfl, _, _, rfl, rfl, ⟨by decide, by decide, by decide⟩, _, _, rfl, rfl, _, _, rfl, ?_⟩
    refine ⟨_, rfl, _, rfl, _, _, rfl, rfl, mulx 32 32 (by omega) (by omega), _, rfl, _, _, rfl, rfl, mulx 13 10 (by decide) (by omega), _, _, rfl, rfl, _, _, rfl, rfl, pj, _, _, rfl, rfl, sz, fun p hp => ?_⟩
    have e1 := Int.emod_nonneg (g * g + 7919 * (k : Int)) (by decide : (2147483629 : Int) ≠ 0)
    have e2 := Int.emod_lt_of_pos (g * g + 7919 * (k : Int)) (by decide : (0 : Int) < 2147483629)
    refine q p _ hp (same_new hp _) ⟨_, _, upd_same, ?_, by omega, by omega⟩
    split <;> omega
def spTake : Sp := fun vs H Q _ => ∃ (p : Addr) (m : Int), vs = [.ref p, .int m] ∧ PotAt H p ∧ 1 ≤ m ∧ m < 2 ^ 200 ∧ ∀ (d : Int) H', 0 ≤ d → d < m → But p H H' → PotAt H' p → Q (.int d) H'
theorem k__law_draw (D : Df K mg "_law_draw" s__law_draw ["_law_pot_here", "_law_many"]) : Dn P w K mg base 1 "_law_draw" ["_law_pot_here", "_law_many"] spTake := by
  refine D.ok fun f fd F => okG0 F sc__law_draw (fun vs H Q E h => ?_) (fun cdv A outer s H vs Q E hr h => ⟨_, (pss_cons (ps_if (pt_cmpR op_gt (pe_ix (kk (K := K) (F := rIxL) (P := IxR _) ix_list) (pv 0) pe_int (fun _ _ => rfl)) pe_int (nomark _))
      (pss_cons (ps_asg (pe_callB call_divmodW (by rfl) B.divmod_ (by decide +kernel) (pa_cons (pe_ix (kk (K := K) (F := rIxL) (P := IxR _) ix_list) (pv 0) pe_int (fun _ _ => rfl)) (pa_cons (pv 1) pa_nil))) (kk (K := K) (F := fun K => gTup K 2 _) (P := PG _ _) (pg_tup rfl (pgs_cons (pg_sub (pv 0) pe_int set_list) (pgs_cons (pg_name (i := 2) sc__law_draw.nd rfl (Or.inl rfl)) pgs_nil)))))
      (pss_one (ps_ret (pv 2))))
      pss_nil)
    (pss_cons (ps_asg (pe_op op_mod (pe_op op_add (pe_op op_mulX (pe_ix (kk (K := K) (F := rIxL) (P := IxR _) ix_list) (pv 0) pe_int (fun _ _ => rfl)) pe_int) pe_int) pe_int) (pg_sub (pv 0) pe_int set_list))
    (pss_one (ps_ret (pe_op op_mod (pe_op op_fdivW (pe_op op_mod (pe_op op_mulX (pe_ix (kk (K := K) (F := rIxL) (P := IxR _) ix_list) (pv 0) pe_int (fun _ _ => rfl)) (pe_ix (kk (K := K) (F := rIxL) (P := IxR _) ix_list) (pv 0) pe_int (fun _ _ => rfl))) pe_int) pe_int) (pv 1)))))), ?_⟩)
  · obtain ⟨p, m, rfl, _⟩ := h; rfl
  · obtain ⟨p, m, rfl, ⟨a, b, hp, ha, hb, hb2⟩, hm, hm2, q⟩ := h
    refine ⟨_, rfl, p, _, _, _, rfl, rfl, SqL.of hp, at_of (j := 0) rfl rfl, _, _, rfl, rfl, _, rfl, ite2 (fun c => ?_) (fun c => ?_)⟩
    · refine ⟨_, rfl, p, _, _, _, rfl, rfl, SqL.of hp, at_of (j := 0) rfl rfl, _, rfl, _, _, rfl, divp_small (by omega) (Int.lt_trans hm2 (by decide)), fun t ht => ?_⟩
      have np : p ≠ t := ne_of_none hp ht
      refine ⟨t, _, rfl, SqT.of upd_same, rfl, _, _, rfl, _, rfl, p, _, _, _, rfl, rfl, by rw [upd_ne np]; exact hp, rfl, _, _, rfl, rfl, _, rfl, ?_⟩
      have h1 := Int.emod_nonneg a (by omega : m ≠ 0)
      have h2 := Int.emod_lt_of_pos a (by omega : 0 < m)
      have h3 := Int.ediv_nonneg ha (by omega : 0 ≤ m)
      exact q _ _ h1 h2 ((same_but (same_new ht _)).trans But.upd) ⟨_, _, upd_same, h3, hb, hb2⟩
    · have hm1 := Int.emod_nonneg (b * 39373 + 11) (by decide : (2147483647 : Int) ≠ 0)
      have hm3 := Int.emod_lt_of_pos (b * 39373 + 11) (by decide : (0 : Int) < 2147483647)
      refine ⟨_, rfl, p, _, _, _, rfl, rfl, SqL.of hp, at_of (j := 1) rfl rfl, _, _, rfl, rfl, mulx 40 16 (by omega) (by decide), _, _, rfl, rfl, _, _, rfl, rfl, pj, ?_⟩
      refine ⟨_, rfl, p, _, _, _, rfl, rfl, hp, rfl, ?_⟩
      refine ⟨_, rfl, p, _, _, _, rfl, rfl, SqL.of upd_same, at_of (j := 1) rfl rfl, _, rfl, p, _, _, _, rfl, rfl, SqL.of upd_same, at_of (j := 1) rfl rfl, _, _, rfl, rfl, mulx 31 31 (by omega) (by omega), ?_⟩
      refine ⟨_, _, rfl, rfl, pj, _, _, rfl, rfl, ⟨by decide, by decide⟩, _, rfl, _, _, rfl, rfl, hm, ?_⟩
      exact q _ _ (Int.emod_nonneg _ (by omega)) (Int.emod_lt_of_pos _ (by omega)) But.upd ⟨_, _, upd_same, ha, hm1, by omega⟩
/-! SPLIT -/
local macro_rules | `(tactic| walk_at "own") => `(tactic| fail)
local macro_rules | `(tactic| walk_at "hp") => `(tactic| first
  | assumption
  | exact L2.upd_same
  | (apply Toy.hp_new; assumption; walk_at "hp")
  | (apply Toy.hp_same; assumption; walk_at "hp")
  | solve_by_elim only [Toy.hp_same, Toy.hp_new, L2.upd_same, *])
local macro_rules | `(tactic| walk_at "sql") => `(tactic| first
  | (apply L2.SqL.of; walk_at "hp")
  | assumption
  | (apply Toy.sq_same; assumption; walk_at "sql"))
local macro_rules | `(tactic| walk_at "sqt") => `(tactic| first
  | (apply L2.SqT.of; walk_at "hp")
  | assumption
  | (apply Toy.same_tup; assumption; walk_at "sqt"))
local macro_rules | `(tactic| walk_at "num") => `(tactic| first
  | omega
  | (simp only [List.length_map, List.length_append, List.length_cons, List.length_nil, List.length_replicate, List.length_take, List.length_drop, List.length_range, List.length_set, List.length_reverse] <;> omega)
  | decide
  | (split <;> split <;> omega)
  | (split <;> omega))
local macro_rules | `(tactic| walk_at "side") => `(tactic| first
  | with_reducible rfl
  | omega
  | assumption
  | exact Toy.sz
  | (apply L2.SqL.of; walk_at "hp")
  | (apply L2.SqT.of; walk_at "hp")
  | (with_reducible apply Or.inl; walk_at "sql")
  | (with_reducible apply Or.inr; walk_at "sqt")
  | (with_reducible apply Exists.intro; walk_at "side")
  | walk_at "hp"
  | exact Eq.refl _
  | (apply Toy.lk1000; walk_at "num")
  | (apply Toy.lt1000; walk_at "num")
  | walk_at "num"
  | (apply Toy.lst_dp; apply L2.SqL.of; walk_at "hp")
  | (apply Toy.tupI_dp; apply L2.SqT.of; walk_at "hp")
  | exact Toy.ints_sh _
  | exact Toy.tupI_sh _
  | (apply L2.RgOk.of_le <;> walk_at "num")
  | (apply L2.atI_nat; assumption)
  | exact L2.Dp.lst (L2.SqL.of (by walk_at "hp")) L2.DpAll.nil
  | exact L2.Dp.tup (L2.SqT.of (by walk_at "hp")) L2.DpAll.nil
  | (apply Toy.ixn; walk_at "num")
  | exact Toy.tyL (by walk_at "hp")
  | (apply Toy.sq_same; assumption; walk_at "sql")
  | (apply Toy.same_tup; assumption; walk_at "sqt")
  | exact L2.ClsV.ty _
  | (apply L2.TyX.base; first | exact L2.TyOf.int _ | exact L2.TyOf.bl _ | exact L2.TyOf.non | exact L2.TyOf.str _ | (apply L2.TyOf.tup; walk_at "hp") | (apply L2.TyOf.lst; walk_at "hp"))
  | exact L2.kit_ty (r := true) (by decide +kernel)
  | exact L2.kit_ty (r := false) (by decide +kernel)
  | walk_at "own")
local macro_rules | `(tactic| walk_at "go") => `(tactic| first
  | (apply And.intro; (focus (walk_at "side")); try walk_at "go")
  | (apply Exists.intro; rotate_left; (fail_if_success (with_reducible refine (?_ : Nat → _ → _))); (fail_if_success (with_reducible refine (?_ : L2.St → _ → _))); rotate_right; try walk_at "go")
  | (apply Or.inl; apply And.intro; (focus (walk_at "sql")); try walk_at "go")
  | (apply Or.inr; apply And.intro; (focus (walk_at "sqt")); try walk_at "go"))
/-! ENDM -/
local macro_rules | `(tactic| walk_at "own") => `(tactic| first
  | exact cf_no _ (by decide +kernel) (by decide +kernel) (by decide +kernel) (by decide +kernel) (by decide +kernel)
  | (apply Toy.lt1000; rw [Toy.iN_len]; omega))
omit B in
theorem none_back {H H' : Hp} {a : Addr} (S : Same H H') (h : H' a = none) : H a = none := by
  cases e : H a with
  | none => rfl
  | some o => rw [S _ _ e] at h; cases h
omit B in
theorem sum_mem : ∀ {xs : List Nat} {n : Nat}, n ∈ xs → n ≤ xs.sum
  | x :: xs, n, h => by
    rw [List.sum_cons]
    rcases List.mem_cons.mp h with e | e
    · omega
    · have := sum_mem e; omega
omit B in
theorem shl1 : ∀ {k : Nat}, k ≤ 3 → CShl 1 ((k : Nat) : Int)
  | 0, _ => ⟨by decide, by decide⟩
  | 1, _ => ⟨by decide, by decide⟩
  | 2, _ => ⟨by decide, by decide⟩
  | 3, _ => ⟨by decide, by decide⟩
omit B in
theorem set_same {α : Type} {xs : List α} {t : Nat} {s : α} (h : xs[t]? = some s) : xs.set t s = xs := by
  obtain ⟨h1, h2⟩ := List.getElem?_eq_some_iff.mp h
  rw [← h2]
  exact List.set_getElem_self _
def Sn (n : Nat) : List Sp1 := (List.range n).map fun i => (i, none)
omit B in
theorem Sn_len {n : Nat} : (Sn n).length = n := by unfold Sn; rw [List.length_map, List.length_range]
omit B in
theorem Sn_succ {n : Nat} : Sn (n + 1) = Sn n ++ [(n, none)] := by unfold Sn; rw [List.range_succ, List.map_append] <;> rfl
omit B in
theorem Sn_told {n : Nat} : tolds (Sn n) = List.range n := by
  induction n with
  | zero => rfl
  | succ n ih => rw [Sn_succ, tolds_snoc, if_pos rfl, ih, List.range_succ]
omit B in
theorem Sn_out {n : Nat} : ∀ s ∈ Sn n, s.2 = none := by
  intro s hs
  unfold Sn at hs
  obtain ⟨i, _, rfl⟩ := List.mem_map.mp hs
  rfl
omit B in
theorem divw_small {i j : Int} (h : 0 < j) (h2 : j < 2 ^ 200) : CDivW i j := ⟨h, Nat.lt_trans (log_lt (n := 200) (by decide) (by omega)) (by decide)⟩
omit B in
theorem Sn_set {n l v : Nat} : (Sn n ++ [(l, some 0)]).set n (v, none) = Sn n ++ [(v, none)] := by
  rw [List.set_append_right _ _ (by rw [Sn_len]; omega), Sn_len, Nat.sub_self] <;> rfl
omit B in
theorem Sn_at {n l : Nat} : (Sn n ++ [(l, some 0)])[n]? = some (l, some 0) := by
  rw [List.getElem?_append_right (by rw [Sn_len]; omega), Sn_len, Nat.sub_self] <;> rfl
omit B in
/-- what the next one is told -/
theorem Sn_next {k : Nat} {tg : List (Nat × Nat)} {row : List Nat} {ups : List Bool} {outs : List Nat} {n v : Nat} (h : Iv k tg row ups outs (Sn n ++ [(v, none)])) : v = n := by
  have e : tolds (Sn n ++ [(v, none)]) = List.range n ++ [v] := by rw [tolds_snoc, if_pos rfl, Sn_told]
  have h1 := h.nd
  have h2 := h.lt (v := v) (by rw [e]; simp)
  rw [e] at h1
  rw [List.length_append, Sn_len] at h2
  have h3 : v ∉ List.range n := fun m => (List.nodup_append.mp h1).2.2 v m v (by simp) rfl
  rw [List.mem_range] at h3
  have : [((v, none) : Sp1)].length = 1 := rfl
  omega
omit B in
theorem Sn_outs {k : Nat} {tg : List (Nat × Nat)} {row : List Nat} {ups : List Bool} {outs : List Nat} {n : Nat} (h : Iv k tg row ups outs (Sn n)) : outs = (List.range (2 ^ k)).map fun j => stp (2 ^ k) n j := by
  have h1 := (h.full Sn_out).2
  have lo := h.lo
  apply List.ext_getElem?
  intro i
  by_cases c : i < 2 ^ k
  · have := h1 i c
    rw [Sn_len, List.getD_eq_getElem?_getD] at this
    rw [List.getElem?_map, List.getElem?_range c, List.getElem?_eq_getElem (by omega)] at *
    rw [Option.map_some, ← this]
    rfl
  · rw [List.getElem?_eq_none (by omega), List.getElem?_eq_none (by rw [List.length_map, List.length_range]; omega)]
omit B in
theorem Sn_sum {n : Nat} {k : Nat} {tg : List (Nat × Nat)} {row : List Nat} {ups : List Bool} {outs : List Nat} (h : Iv k tg row ups outs (Sn n)) : (iN outs).sum = (n : Int) := by rw [iN_sum, h.sm, Sn_told, List.length_range]
omit B in
theorem rg_iN {n : Nat} : rgV 0 (n : Int) = (iN (List.range n)).map V.int := by
  unfold rgV iN
  rw [show ((n : Int) - 0).toNat = n by omega, List.map_map]
  exact List.map_congr_left fun i _ => by show V.int (0 + (i : Int)) = V.int (i : Int); rw [Int.zero_add]
omit B in
theorem range_sorted : ∀ {n : Nat}, (iN (List.range n)).Pairwise (· ≤ ·) := by
  intro n
  unfold iN
  rw [List.pairwise_map]
  exact (List.pairwise_lt_range (n := n)).imp fun h => by omega
omit B in
theorem Sn_ns {n : Nat} {ns : List Int} (p1 : ns.Perm (iN (tolds (Sn n)))) (p2 : ns.Pairwise (· ≤ ·)) : ns = iN (List.range n) := by
  rw [Sn_told] at p1
  exact sorted_uniq p1 p2 range_sorted
omit B in
theorem repA0 {K : PySem.W.Frag} {H : Hp} {T : Addr} {k : Nat} {Q : VK} (hT : H T = some (.tup [.int 0])) (hk : k ≤ 3) (q : ∀ p H', Same H H' → H' p = some (.tup ((iN (List.replicate (2 ^ k) 0)).map V.int)) → Q (.ref p) H') : rRepA K (.ref T) (.int ((2 ^ k : Nat) : Int)) H Q := by
  have eM : 2 ^ k ≤ 8 := (Nat.pow_le_pow_right (by decide) hk : 2 ^ k ≤ 2 ^ 3)
  cases k with
  | zero => exact .inl ⟨rfl, ⟨T, _, rfl, SqT.of hT⟩, q T H (fun _ _ h => h) hT⟩
  | succ k =>
    have h2 : 2 ≤ 2 ^ (k + 1) := by rw [Nat.pow_succ]; have := Nat.two_pow_pos k; omega
    refine .inr ⟨T, _, _, rfl, rfl, SqT.of hT, by simp, by omega, by omega, by decide, fun p hp => q p _ (same_new hp _) ?_⟩
    rw [upd_same, Int.toNat_natCast]
    congr 2
    generalize 2 ^ (k + 1) = m
    induction m with
    | zero => rfl
    | succ m ih => rw [List.replicate_succ, List.flatten_cons, ih]; rfl
/-- a counter with its state -/
structure Ws (C : Addr) (H : Hp) (p : Addr) (c : Ct) (k : Nat) (tg : List (Nat × Nat)) (row : List Nat) (ups : List Bool) (outs : List Nat) (sp : List Sp1) : Prop where
  ct : CtAt C H p c tg row ups outs sp
  iv : Iv k tg row ups outs sp
  nt : Nt k tg row
omit B in
theorem Ws.facts {C : Addr} {H : Hp} {p : Addr} {c : Ct} {k : Nat} {tg : List (Nat × Nat)} {row : List Nat} {ups : List Bool} {outs : List Nat} {sp : List Sp1} {t l b : Nat} (hW : Ws C H p c k tg row ups outs sp) (ht : sp[t]? = some (l, some b)) :
    b ≤ tg.length ∧ l ∈ row ∧ tg.length ≤ 100 ∧ sp.length ≤ 40 ∧ row.length ≤ 8 ∧ ∀ m ∈ outs, m ≤ 1000 := by
  have hok := hW.iv.ok _ (List.mem_of_getElem? ht) b rfl
  have le := hW.iv.le
  refine ⟨hok.2.1, hok.1, hW.nt.tl, le, by rw [hW.nt.rl]; exact (Nat.pow_le_pow_right (by decide) hW.nt.k3 : 2 ^ k ≤ 2 ^ 3), fun n hn => ?_⟩
  have h1 := sum_mem hn
  rw [hW.iv.sm] at h1
  have : (tolds sp).length ≤ sp.length := List.length_filterMap_le _ _
  omega
def spGone (K : PySem.W.Frag) (C : Addr) : Sp := fun vs H Q _ => ∃ (p : Addr) (c : Ct) (k : Nat) (tg : List (Nat × Nat)) (row : List Nat) (ups : List Bool) (outs : List Nat) (sp : List Sp1) (t l b m : Nat), vs = [.ref p, .int t, .int m] ∧ Ws C H p c k tg row ups outs sp ∧ sp[t]? = some (l, some b) ∧ dp (tg.drop b) l = m ∧
  ∀ (v : Nat) ups' outs' H', Bt c H H' → Ws C H' p c k tg row ups' outs' (sp.set t (v, none)) → Q (.int v) H'
theorem k__law_gone (D : Df K mg "_law_gone" s__law_gone ["_law_counter", "_law_token", "_law_many"]) (D_Counter__go : DnM P w K mg base (cAt mg "Counter") 5 "go" ["self", "token"] (spGo K (cAt mg "Counter"))) : Dn P w K mg base 6 "_law_gone" ["_law_counter", "_law_token", "_law_many"] (spGone K (cAt mg "Counter")) := by
  refine D.ok fun f fd F => okG0 F sc__law_gone (fun vs H Q E h => ?_) (fun cdv A outer s H vs Q E hr h => ⟨_, (pss_cons (ps_for PassesOwn.never rfl (pi_range1 (by rfl) B.range_ (pa_cons (pv 2) pa_nil)) (pg_name (i := 3) sc__law_gone.nd rfl (Or.inl rfl))
      (pss_one (ps_if (pt_cmpR op_notN (pe_mG D_Counter__go B.Counter_.cl (hr.less (by decide)) (pv 0) (pa_cons (pv 1) pa_nil)) pe_non (nomark _))
       (pss_one (ps_ret pe_non))
       pss_nil)))
    (pss_one (ps_ret (pe_mG D_Counter__go B.Counter_.cl (hr.less (by decide)) (pv 0) (pa_cons (pv 1) pa_nil))))), ?_⟩)
  · obtain ⟨p, c, k, tg, row, ups, outs, sp, t, l, b, m, rfl, _⟩ := h; rfl
  · obtain ⟨p, c, k, tg, row, ups, outs, sp, t, l, b, m, rfl, hW, ht, hm, q⟩ := h
    have htl : t < sp.length := (List.getElem?_eq_some_iff.mp ht).1
    have m6 : m ≤ 6 := by rw [← hm]; exact (hW.iv.ok _ (List.mem_of_getElem? ht) b rfl).2.2
    walk_at "go"
    refine for_range (lo := 0) (n := m) (fun j σ H' => ∃ w3 l' b' ups' outs', σ = [some (.ref p), some (.int (t : Nat)), some (.int (m : Nat)), w3] ∧ Bt c H H' ∧ Ws (cAt mg "Counter") H' p c k tg row ups' outs' (sp.set t (l', some b')) ∧ dp (tg.drop b') l' + j = m)
      ⟨none, l, b, ups, outs, rfl, same_bt (fun _ _ h => h), by rw [set_same ht]; exact hW, by omega⟩ ?_ ?_
    · rintro j σ H2 hj ⟨w3, l', b', ups', outs', rfl, bt, hW2, hd⟩
      have ht2 : (sp.set t (l', some b'))[t]? = some (l', some b') := List.getElem?_set_self htl
      obtain ⟨g1, g2, g3, g4, g5, g6⟩ := hW2.facts ht2
      have hC2 := hW2.ct
      have hi2 := hC2.ins_
      walk_at "go"
      refine ⟨fun j' H3 hf hj2 bt3 hC3 => ?_, fun n H3 hn hf bt3 hC3 => ?_⟩
      · have := dp_out hf
        omega
      · have g := dp_go hW2.nt.bal hf hn (ups'.getD n true)
        have hI := hW2.iv.go hW2.nt ht2 hf hn
        rw [List.set_set] at hC3 hI
        walk_at "go"
        refine ⟨bt.trans bt3, ⟨hC3, hI, hW2.nt⟩, ?_⟩
        omega
    · rintro σ H2 ⟨w3, l', b', ups', outs', rfl, bt, hW2, hd⟩
      have ht2 : (sp.set t (l', some b'))[t]? = some (l', some b') := List.getElem?_set_self htl
      obtain ⟨g1, g2, g3, g4, g5, g6⟩ := hW2.facts ht2
      have hC2 := hW2.ct
      have hi2 := hC2.ins_
      walk_at "go"
      refine ⟨fun j' H3 hf hj2 bt3 hC3 => ?_, fun n H3 hn hf bt3 hC3 => ?_⟩
      · have hI := hW2.iv.out hW2.nt ht2 hf hj2
        rw [List.set_set] at hC3 hI
        exact q _ _ _ _ (bt.trans bt3) ⟨hC3, hI, hW2.nt⟩
      · have g := dp_go hW2.nt.bal hf hn (ups'.getD n true)
        omega
def spLOuts (K : PySem.W.Frag) : Sp := fun vs H Q _ => ∃ (n k : Nat), vs = [.int n, .int ((2 ^ k : Nat) : Int)] ∧ n ≤ 40 ∧ k ≤ 3 ∧ ∀ U H', Same H H' → H' U = some (.tup ((iN ((List.range (2 ^ k)).map fun j => stp (2 ^ k) n j)).map V.int)) → Q (.ref U) H'
theorem k__law_outs (D : Df K mg "_law_outs" s__law_outs ["_law_many_in", "_law_lines"]) : Dn P w K mg base 1 "_law_outs" ["_law_many_in", "_law_lines"] (spLOuts K) := by
  refine D.ok fun f fd F => okG0 F sc__law_outs (fun vs H Q E h => ?_) (fun cdv A outer s H vs Q E hr h => ⟨_, (pss_one (ps_ret (pe_callTy (tupOfK (K := K)) (by rfl) B.tuple_ (by decide +kernel) (pa_cons (pe_lc (own := [("_law_place", 2)]) (g := gName 2) (tt := tYes) rfl sc__law_outs.nd (pi_range1 (by rfl) B.range_ (pa_cons (pv 1) pa_nil)) (blkOk_by (own := [("_law_place", 2)]) (N := ["_law_many_in", "_law_lines", "_law_place"]) (sc := defScope s__law_outs) (by decide +kernel)) (fun _ _ _ _ _ => (pg_name (i := 2) sc__law_outs.nd rfl (Or.inl rfl))) (fun _ _ _ _ _ => pts_nil) (fun _ _ _ _ _ => (pe_op op_fdivW (pe_op op_sub (pe_op op_add (pe_op op_sub (pv 0) (pv 2)) (pv 1)) pe_int) (pv 1)))) pa_nil)))), ?_⟩)
  · obtain ⟨n, k, rfl, _⟩ := h; rfl
  · obtain ⟨n, k, rfl, hn, hk, q⟩ := h
    have eM : 2 ^ k ≤ 8 := (Nat.pow_le_pow_right (by decide) hk : 2 ^ k ≤ 2 ^ 3)
    have hw := Nat.two_pow_pos k
    generalize hW : 2 ^ k = w at eM hw q ⊢
    walk_at "go"
    intro D hD
    refine lc_range (lo := 0) (n := ((w : Nat) : Int).toNat) (fun i H' => Same H H' ∧ H' D = some (.lst ((iN ((List.range i).map fun j => stp w n j)).map V.int))) ⟨same_new hD _, upd_same⟩ ?_ ?_
    · rintro j H' hj ⟨S1, hD1⟩
      have hj2 : j < w := by omega
      have hdv : CDivW ((n : Int) - (j : Int) + (w : Int) - 1) (w : Int) := divw_small (by omega) (by omega)
      have ev : ((n : Int) - (j : Int) + (w : Int) - 1) / (w : Int) = ((stp w n j : Nat) : Int) := by
        unfold stp
        rw [show (n : Int) - (j : Int) + (w : Int) - 1 = ((n + w - 1 - j : Nat) : Int) by omega]
        rfl
      rw [Int.zero_add]
      walk_at "go"
      refine ⟨lt1000 (by rw [iN_len, List.length_map, List.length_range]; omega), but_same hD S1 But.upd, ?_⟩
      dsimp only
      rw [upd_same, ev, iN_snoc, List.range_succ, List.map_append] <;> rfl
    · rintro H' ⟨S1, hD1⟩
      rw [Int.toNat_natCast] at hD1
      walk_at "go"
      intro U hU
      generalize eH2 : upd _ U _ = H2
      have SH2 := newS eH2 hU
      have oU := newO eH2
      exact q U _ (S1.trans SH2) oU
def spFull (K : PySem.W.Frag) (C : Addr) : Sp := fun vs H Q _ => ∃ (p : Addr) (c : Ct) (k : Nat) (tg : List (Nat × Nat)) (row : List Nat) (ups : List Bool) (outs : List Nat) (sp : List Sp1) (l : Nat), vs = [.ref p, .int l] ∧ Ws C H p c k tg row ups outs sp ∧ l < 2 ^ k ∧ sp.length = 40 ∧ Q (.bl true) H
theorem k__law_is_full (D : Df K mg "_law_is_full" s__law_is_full ["_law_counter", "_law_line"]) (D_Counter__come : DxM P w K mg base (cAt mg "Counter") 5 "come" ["self", "line"] (spCome K (cAt mg "Counter") (cAt mg "TooMany"))) : Dn P w K mg base 6 "_law_is_full" ["_law_counter", "_law_line"] (spFull K (cAt mg "Counter")) := by
  refine D.ok fun f fd F => okG0 F sc__law_is_full (fun vs H Q E h => ?_) (fun cdv A outer s H vs Q E hr h => ⟨_, (pss_cons (ps_set (i := 2) sc__law_is_full.nd rfl (Or.inl rfl) pe_bl)
    (pss_cons (ps_try_only rfl rfl ⟨rfl, by decide, .inl B.TooMany_.mg_⟩ takes0 (fun W pn xe tk po => (pss_one (ps_expr (pe_mX D_Counter__come B.Counter_.cl (hr.less (by decide)) tk (pv 0) (pa_cons (pv 1) pa_nil)))))
      (fun a oe cls d pn hz hf => (pss_one (ps_set (i := 2) sc__law_is_full.nd rfl (Or.inl rfl) pe_bl))))
    (pss_one (ps_ret (pv 2))))), ?_⟩)
  · obtain ⟨p, c, k, tg, row, ups, outs, sp, l, rfl, _⟩ := h; rfl
  · obtain ⟨p, c, k, tg, row, ups, outs, sp, l, rfl, hW, hl, hs, q⟩ := h
    have hC := hW.ct
    have hi := hC.ins_
    have ex : PySem.W.exmOne K (.ref (cAt mg "TooMany")) (.ref (cAt mg "TooMany")) = some true := exm_of B.TooMany_ B.TooMany_TooMany_
    walk_at "go"
    refine ⟨by rw [hW.nt.rl]; exact hl, by omega, fun z => absurd z (by omega), fun _ => ?_⟩
    refine ⟨true, ex, fun _ a ha => ?_, fun z => by cases z⟩
    walk_at "go"
    exact q
/-! SPLIT -/
def spLaw (K : PySem.W.Frag) : Sp := fun vs H Q _ => ∃ (a : Addr) (ns : List Int), vs = [.ref a] ∧ SqL K H a (ns.map V.int) ∧ ns.length ≤ 63 ∧ ∀ H', Q (.bl true) H'
theorem k_law {f : Addr} {fd : FuncData} (F : Fun K "law" "law" s_law f fd) (D_Counter____init__ : DnI P w K mg base (cAt mg "Counter") 13 ["self", "k"] (spCtInit K (cAt mg "Counter"))) (D__law_pot : Dn P w K mg base 2 "_law_pot" ["_law_script", "_law_k"] (spPot K)) (D__law_draw : Dn P w K mg base 1 "_law_draw" ["_law_pot_here", "_law_many"] spTake) (D_Counter__come : DxM P w K mg base (cAt mg "Counter") 5 "come" ["self", "line"] (spCome K (cAt mg "Counter") (cAt mg "TooMany"))) (D_Counter__outs : DnM P w K mg base (cAt mg "Counter") 1 "outs" ["self"] (spOuts K (cAt mg "Counter"))) (D_Counter__told : DnM P w K mg base (cAt mg "Counter") 1 "told" ["self"] (spTold K (cAt mg "Counter"))) (D_Counter__inside : DnM P w K mg base (cAt mg "Counter") 1 "inside" ["self"] (spInside K (cAt mg "Counter"))) (D__law_gone : Dn P w K mg base 6 "_law_gone" ["_law_counter", "_law_token", "_law_many"] (spGone K (cAt mg "Counter"))) (D__law_outs : Dn P w K mg base 1 "_law_outs" ["_law_many_in", "_law_lines"] (spLOuts K)) (D__law_is_full : Dn P w K mg base 6 "_law_is_full" ["_law_counter", "_law_line"] (spFull K (cAt mg "Counter"))) : FnG P w K mg base CX0 15 f fd ["_law_script"] (spLaw K) := by
  refine okG0 F sc_law (fun vs H Q E h => ?_) (fun cdv A outer s H vs Q E hr h => ⟨_, (pss_cons (ps_for PassesOwn.never rfl (pi_range1 (by rfl) B.range_ (pa_cons (pe_callB (call_max2 rfl) (by rfl) B.max_ (by decide +kernel) (pa_cons pe_int (pa_cons (pe_callB (call_min2 rfl) (by rfl) B.min_ (by decide +kernel) (pa_cons pe_int (pa_cons (pe_callB (lenK (K := K)) (by rfl) B.len_ (by decide +kernel) (pa_cons (pv 0) pa_nil)) pa_nil))) pa_nil))) pa_nil)) (pg_name (i := 1) sc_law.nd rfl (Or.inl rfl))
      (pss_cons (ps_set (i := 2) sc_law.nd rfl (Or.inl rfl) (pe_cD D__law_pot (hr.less (by decide)) rfl (pa_cons (pv 0) (pa_cons (pv 1) pa_nil))))
      (pss_cons (ps_set (i := 3) sc_law.nd rfl (Or.inl rfl) (pe_cD D__law_draw (hr.less (by decide)) rfl (pa_cons (pv 2) (pa_cons pe_int pa_nil))))
      (pss_cons (ps_set (i := 4) sc_law.nd rfl (Or.inr rfl) (pe_op op_shlW pe_int (pv 3)))
      (pss_cons (ps_set (i := 5) sc_law.nd rfl (Or.inr rfl) (pe_mkG D_Counter____init__ (hr.less (by decide)) rfl B.Counter_.mg_ (pa_cons (pv 3) pa_nil)))
      (pss_cons (ps_if (PW.pt (pw_or (pt_cmpR (kk (K := K) (F := rNeD) (P := OpR _ _) (op_neD hr.units)) (pe_mG0 D_Counter__outs B.Counter_.cl (hr.less (by decide)) (pv 5)) (pe_op (kk (K := K) (F := rRepA) (P := OpR _ _) op_repA) (pe_tup (pa_cons pe_int pa_nil)) (pv 4)) (nomark _)) (pw_or (pt_cmpR (kk (K := K) (F := rNeD) (P := OpR _ _) (op_neD hr.units)) (pe_mG0 D_Counter__told B.Counter_.cl (hr.less (by decide)) (pv 5)) (pe_tup pa_nil) (nomark _)) (pw_or1 (pt_cmpR op_ne (pe_mG0 D_Counter__inside B.Counter_.cl (hr.less (by decide)) (pv 5)) pe_int (nomark _))))))
        (pss_one (ps_ret pe_bl))
        pss_nil)
      (pss_cons (ps_set (i := 6) sc_law.nd rfl (Or.inl rfl) (pe_ifExp (pt_cmpR op_eq (pe_cD D__law_draw (hr.less (by decide)) rfl (pa_cons (pv 2) (pa_cons pe_int pa_nil))) pe_int (nomark _)) pe_int (pe_cD D__law_draw (hr.less (by decide)) rfl (pa_cons (pv 2) (pa_cons pe_int pa_nil)))))
      (pss_cons (ps_for PassesOwn.never rfl (pi_range1 (by rfl) B.range_ (pa_cons (pv 6) pa_nil)) (pg_name (i := 7) sc_law.nd rfl (Or.inl rfl))
        (pss_cons (ps_if (PW.pt (pw_or (pt_cmpR op_ne (pe_mXn D_Counter__come B.Counter_.cl (hr.less (by decide)) (pv 5) (pa_cons (pe_cD D__law_draw (hr.less (by decide)) rfl (pa_cons (pv 2) (pa_cons (pv 4) pa_nil))) pa_nil)) (pv 7) (nomark _)) (pw_or1 (pt_cmpR op_ne (pe_mG0 D_Counter__inside B.Counter_.cl (hr.less (by decide)) (pv 5)) pe_int (nomark _)))))
          (pss_one (ps_ret pe_bl))
          pss_nil)
        (pss_cons (ps_if (PW.pt (pw_or (pt_cmpR op_ne (pe_cD D__law_gone (hr.less (by decide)) rfl (pa_cons (pv 5) (pa_cons (pv 7) (pa_cons (pe_op op_fdivW (pe_op op_mulX (pv 3) (pe_op op_add (pv 3) pe_int)) pe_int) pa_nil)))) (pv 7) (nomark _)) (pw_or1 (pt_cmpR op_ne (pe_mG0 D_Counter__inside B.Counter_.cl (hr.less (by decide)) (pv 5)) pe_int (nomark _)))))
          (pss_one (ps_ret pe_bl))
          pss_nil)
        (pss_one (ps_if (PW.pt (pw_or (pt_cmpR (kk (K := K) (F := rNeD) (P := OpR _ _) (op_neD hr.units)) (pe_mG0 D_Counter__outs B.Counter_.cl (hr.less (by decide)) (pv 5)) (pe_cD D__law_outs (hr.less (by decide)) rfl (pa_cons (pe_op op_add (pv 7) pe_int) (pa_cons (pv 4) pa_nil))) (nomark _)) (pw_or1 (pt_cmpR (kk (K := K) (F := rNeD) (P := OpR _ _) (op_neD hr.units)) (pe_mG0 D_Counter__told B.Counter_.cl (hr.less (by decide)) (pv 5)) (pe_tupRg rfl (by rfl) B.tuple_ (prg_1 rfl B.range_ (pe_op op_add (pv 7) pe_int))) (nomark _)))))
         (pss_one (ps_ret pe_bl))
         pss_nil)))))
      (C8.pss_cut (ps_if (PW.pt (pw_and (pt_cmpR op_eq (pv 6) pe_int (nomark _)) (pw_and1 (pt_not (pt_val (pe_callB (kk (K := K) (F := rAll) (P := CallR _ _) (cr_all rfl)) (by rfl) B.all_ (by decide +kernel) (pa_cons (pe_lc (own := [("_law_line", 8)]) (g := gName 8) (tt := tYes) rfl sc_law.nd (pi_range1 (by rfl) B.range_ (pa_cons pe_int pa_nil)) (blkOk_by (own := [("_law_line", 8)]) (N := ["_law_script", "_law_k", "_law_pot_here", "_law_depth", "_law_lines", "_law_counter", "_law_many", "_law_number", "_law_line"]) (sc := defScope s_law) (by decide +kernel)) (fun _ _ _ _ _ => (pg_name (i := 8) sc_law.nd rfl (Or.inl rfl))) (fun _ _ _ _ _ => pts_nil) (fun _ _ _ _ _ => (pe_cD D__law_is_full (hr.less (by decide)) rfl (pa_cons (pv 5) (pa_cons (pe_op op_mod (pv 8) (pv 4)) pa_nil))))) pa_nil)))))))
        (pss_one (ps_ret pe_bl))
        pss_nil)
      (pss_cons (ps_if (PW.pt (pw_or (pt_cmpR (kk (K := K) (F := rNeD) (P := OpR _ _) (op_neD hr.units)) (pe_mG0 D_Counter__outs B.Counter_.cl (hr.less (by decide)) (pv 5)) (pe_cD D__law_outs (hr.less (by decide)) rfl (pa_cons (pv 6) (pa_cons (pv 4) pa_nil))) (nomark _)) (pw_or1 (pt_cmpR (kk (K := K) (F := rNeD) (P := OpR _ _) (op_neD hr.units)) (pe_mG0 D_Counter__told B.Counter_.cl (hr.less (by decide)) (pv 5)) (pe_tupRg rfl (by rfl) B.tuple_ (prg_1 rfl B.range_ (pv 6))) (nomark _)))))
        (pss_one (ps_ret pe_bl))
        pss_nil)
      (pss_one (ps_if (pt_cmpR op_ne (pe_mG0 D_Counter__inside B.Counter_.cl (hr.less (by decide)) (pv 5)) pe_int (nomark _))
       (pss_one (ps_ret pe_bl))
       pss_nil))))))))))))
    (pss_one (ps_ret pe_bl))), ?_⟩)
  · obtain ⟨a, ns, rfl, _⟩ := h; rfl
  · obtain ⟨a, ns, rfl, hS, hl, q⟩ := h
    walk_at "go"
    have hN : (if (if (((ns.map V.int).length : Nat) : Int) < 4 then (((ns.map V.int).length : Nat) : Int) else 4) > 1 then (if (((ns.map V.int).length : Nat) : Int) < 4 then (((ns.map V.int).length : Nat) : Int) else 4) else 1).toNat ≤ 4 := by split <;> split <;> omega
    generalize (if (if (((ns.map V.int).length : Nat) : Int) < 4 then (((ns.map V.int).length : Nat) : Int) else 4) > 1 then (if (((ns.map V.int).length : Nat) : Int) < 4 then (((ns.map V.int).length : Nat) : Int) else 4) else 1).toNat = n at hN ⊢
    refine for_range (lo := 0) (n := n) (fun i σ H2 => ∃ v1 v2 v3 v4 v5 v6 v7 v8 : Option V, σ = [some (.ref a), v1, v2, v3, v4, v5, v6, v7, v8] ∧ Same H H2) ⟨none, none, none, none, none, none, none, none, rfl, Same.refl H⟩ ?_ ?_
    · rintro i σ H2 hi ⟨v1, v2, v3, v4, v5, v6, v7, v8, rfl, S2⟩
      rw [Int.zero_add]
      walk_at "go"
      intro pot H3 np S3 po3
      walk_at "go"
      intro d H4 d0 d4 b4 po4
      obtain ⟨k, rfl⟩ : ∃ k : Nat, d = (k : Int) := ⟨d.toNat, by omega⟩
      have hk : k ≤ 3 := by omega
      have hsh := shl1 hk
      have hw := Nat.two_pow_pos k
      have eM : 2 ^ k ≤ 8 := (Nat.pow_le_pow_right (by decide) hk : 2 ^ k ≤ 2 ^ 3)
      have S5 : Same H2 H4 := but_same np S3 b4
      have eL : (1 : Int) * 2 ^ ((k : Nat) : Int).toNat = ((2 ^ k : Nat) : Int) := by rw [Int.one_mul, Int.toNat_natCast]; push_cast; rfl
      walk_at "go"
      (conv => whnf)
      dsimp only
      rw [eL]
      intro p dx hp hdx hne
      refine ⟨p, dx, k, rfl, upd_same, hk, fun c H6 b6 hC6 fr => ⟨rfl, ?_⟩⟩
      have S6 : Same H4 H6 := fun x o e => by
        have e1 : x ≠ p := ne_of_none e hp
        have e2 : x ≠ dx := ne_of_none e hdx
        exact b6 _ _ e1 (by rw [upd_ne e1, upd_ne e2]; exact e)
      have fr5 : ∀ x ∈ [c.U, c.R, c.M, c.A], H4 x = none := fun x hx => by
        have h1 := fr x hx
        by_cases e1 : x = p
        · rw [e1]; exact hp
        · rw [upd_ne e1] at h1
          by_cases e2 : x = dx
          · rw [e2]; exact hdx
          · rw [upd_ne e2] at h1; exact h1
      have hNt := nt_of hk
      have hIv := Iv.init hk
      generalize cl k (List.range (2 ^ k)) = net at *
      obtain ⟨tg, row⟩ := net
      have hi6 := hC6.ins_
      have hO : (tg, row).2.length = row.length := rfl
      walk_at "go"
      intro U H7 S7 hU7
      walk_at "go"
      intro T hT
      generalize eH8 : upd _ T _ = H8
      have SH8 := newS eH8 hT
      have oT := newO eH8
      walk_at "go"
      refine repA0 oT hk fun R H9 S9 hR => ?_
      walk_at "go"
      refine ite2 (fun c => absurd c (by rw [tupI_refl]; decide)) (fun _ => ?_)
      have hC9 := ((hC6.same S7).same SH8).same S9
      have hi9 := hC9.ins_
      walk_at "go"
      intro ns1 U1 H10 p1 p2 S10 hU10
      obtain rfl : ns1 = [] := List.Perm.eq_nil p1
      walk_at "go"
      intro T2 hT2
      generalize eH11 : upd _ T2 _ = H11
      have SH11 := newS eH11 hT2
      have oT2 := newO eH11
      have hC11 := (hC9.same S10).same SH11
      have hi11 := hC11.ins_
      have S11 : Same H6 H11 := S7.trans (SH8.trans (S9.trans (S10.trans SH11)))
      have po11 := po4.same (S6.trans S11)
      have z0 : (iN (List.replicate (2 ^ k) 0)).sum = ((0 : Nat) : Int) := by rw [iN_sum, hIv.sm] <;> rfl
      walk_at "go"
      refine ite2 (fun c => absurd c ?_) (fun _ => ?_)
      · rw [z0]
        decide
      walk_at "go"
      intro d12 H12 e0 e1 b12 po12
      walk_at "go"
      refine ifE (fun v H' => ∃ m : Nat, v = .int (m : Nat) ∧ m ≤ 40 ∧ But pot H11 H' ∧ PotAt H' pot) ?_ ?_ ?_
      · rintro v H13 ⟨m, rfl, m40, b13, po13⟩
        have potC : pot ∉ [c.P, c.U, c.R, c.M, c.A] := by
          obtain ⟨z1, z2, hp5, hr5⟩ := po4
          obtain ⟨ts, hP, _⟩ := hC6.pairs_
          have q1 : ∀ x ∈ [c.U, c.R, c.M, c.A], pot ≠ x := fun x hx z => by
            have := fr5 x hx
            rw [← z, hp5] at this
            cases this
          have q2 : pot ≠ c.P := by
            intro z
            have h1 := S6 _ _ hp5
            rw [z, hP] at h1
            have h2 := congrArg List.length (HO.lst.inj (Option.some.inj h1))
            cases ts with
            | nil => cases h2
            | cons t ts => cases (HO.lst.inj (Option.some.inj h1))
          simp only [List.mem_cons, List.not_mem_nil, or_false, not_or]
          exact ⟨q2, q1 _ (by simp), q1 _ (by simp), q1 _ (by simp), q1 _ (by simp)⟩
        have potN : pot ≠ c.U ∧ pot ≠ c.M ∧ pot ≠ c.A := by
          simp only [List.mem_cons, List.not_mem_nil, or_false, not_or] at potC
          exact ⟨potC.2.1, potC.2.2.2.1, potC.2.2.2.2⟩
        obtain ⟨x1, x2, hp11, _⟩ := po11
        have hC13 := hC11.but b13 hp11 potC
        have hW13 : Ws (cAt mg "Counter") H13 p c k tg row (List.replicate tg.length true) (List.replicate (2 ^ k) 0) (Sn 0) := ⟨hC13, hIv, hNt⟩
        have k13 : Kp [pot, c.U, c.M, c.A] H6 H13 := (kp_same S11).trans (kp_but b13 (by simp))
        clear hC13 hC11 hC9 hi11 hi9 hC6 hi6 hIv
        walk_at "go"
        refine for_range (lo := 0) (n := ((m : Nat) : Int).toNat) (fun j σ H' => ∃ w7 ups outs, σ = [some (.ref a), some (.int (i : Nat)), some (.ref pot), some (.int (k : Nat)), some (.int ((2 ^ k : Nat) : Int)), some (.ref p), some (.int (m : Nat)), w7, v8] ∧ Kp [pot, c.U, c.M, c.A] H6 H' ∧ Ws (cAt mg "Counter") H' p c k tg row ups outs (Sn j) ∧ PotAt H' pot)
          ⟨_, _, _, rfl, k13, hW13, po13⟩ ?_ ?_
        · rintro j σ H14 hj ⟨w7, ups, outs, rfl, k14, hW14, po14⟩
          rw [Int.zero_add]
          have hjm : j < m := by omega
          have hsl := Sn_len (n := j)
          have hC14 := hW14.ct
          have hi14 := hC14.ins_
          walk_at "go"
          intro d15 H15 e0 e1 b15 po15
          obtain ⟨l, rfl⟩ : ∃ l : Nat, d15 = (l : Int) := ⟨d15.toNat, by omega⟩
          obtain ⟨y1, y2, hp14, _⟩ := po14
          have hC15 := hC14.but b15 hp14 potC
          have hi15 := hC15.ins_
          have hrl : row.length = 2 ^ k := hNt.rl
          walk_at "go"
          refine ⟨fun _ H16 b16 hC16 => ?_, fun z => by omega⟩
          have hi16 := hC16.ins_
          have hI16 := hW14.iv.come hNt (l := l) (by omega) (by omega)
          walk_at "go"
          refine ite2 (fun z => absurd z (by rw [dec_ne (congrArg V.int (by rw [hsl]))]; decide)) (fun _ => ?_)
          have hsum := Sn_sum hW14.iv
          have hsl2 : (Sn j ++ [((l, some 0) : Sp1)]).length = j + 1 := by rw [List.length_append, hsl] <;> rfl
          walk_at "go"
          refine ite2 (fun z => absurd z (by rw [dec_ne (congrArg V.int (by rw [hsum, hsl2]; omega))]; decide)) (fun _ => ?_)
          have hmx : CMulX (k : Int) ((k : Int) + 1) := mulx 20 20 (by omega) (by omega)
          have hdv : CDivW ((k : Int) * ((k : Int) + 1)) 2 := divw_small (by omega) (by omega)
          walk_at "go"
          refine ⟨Sn_at, by rw [List.drop_zero]; exact hNt.d0 l (by omega), fun v ups' outs' H17 b17 hW17 => ?_⟩
          rw [Sn_set] at hW17
          have ev := Sn_next hW17.iv
          subst ev
          rw [← Sn_succ] at hW17
          have hC17 := hW17.ct
          have hi17 := hC17.ins_
          have hsum17 := Sn_sum hW17.iv
          have hsl17 := Sn_len (n := v + 1)
          walk_at "go"
          refine ite2 (fun z => absurd z (by rw [dec_ne rfl]; decide)) (fun _ => ?_)
          walk_at "go"
          refine ite2 (fun z => absurd z (by rw [dec_ne (congrArg V.int (by rw [hsum17, hsl17]; omega))]; decide)) (fun _ => ?_)
          walk_at "go"
          intro U18 H18 S18 hU18
          rw [Sn_outs hW17.iv] at hU18
          walk_at "go"
          intro U19 H19 S19 hU19
          walk_at "go"
          refine ite2 (fun c => absurd c (by rw [tupI_refl]; decide)) (fun _ => ?_)
          have S17 : Same H17 H19 := S18.trans S19
          have hC19 := (hC17.same S18).same S19
          have hi19 := hC19.ins_
          walk_at "go"
          intro ns20 U20 H20 p1 p2 S20 hU20
          obtain rfl := Sn_ns p1 p2
          have hrg : RgOk 0 ((v : Int) + 1) := RgOk.of_le (by omega) (by omega) (by omega) (by omega)
          walk_at "go"
          intro U21 hU21
          generalize eH21 : upd _ U21 _ = H21
          have SH21 := newS eH21 hU21
          have oU21 := newO eH21
          have oU : H21 U21 = some (.tup ((iN (List.range (v + 1))).map V.int)) := by rw [← rg_iN]; exact oU21
          clear oU21 eH21 p1 p2
          generalize iN (List.range (v + 1)) = zs at oU hU20
          walk_at "go"
          refine ite2 (fun c => absurd c (by rw [tupI_refl]; decide)) (fun _ => ?_)
          have S17' : Same H17 H21 := S17.trans (S20.trans SH21)
          have k21 : Kp [pot, c.U, c.M, c.A] H6 H21 := k14.trans ((kp_but b15 (by simp)).trans ((kp_bt b16 (by simp)).trans ((kp_bt b17 (by simp)).trans (kp_same S17'))))
          have po21 : PotAt H21 pot := by
            obtain ⟨z1, z2, hz, hr⟩ := po15
            exact ⟨z1, z2, S17' _ _ (b17 _ _ potN.1 potN.2.1 potN.2.2 (b16 _ _ potN.1 potN.2.1 potN.2.2 hz)), hr⟩
          walk_at "go"
          exact ⟨⟨hC17.same S17', hW17.iv, hNt⟩, po21⟩
        · rintro σ H14 ⟨w7, ups, outs, rfl, k14, hW14, po14⟩
          rw [Int.toNat_natCast] at hW14
          refine ⟨fun σ H' => ∃ w8, σ = [some (.ref a), some (.int (i : Nat)), some (.ref pot), some (.int (k : Nat)), some (.int ((2 ^ k : Nat) : Int)), some (.ref p), some (.int (m : Nat)), w7, w8] ∧ Same H14 H', ?_, ?_⟩
          · walk_at "go"
            refine ite2 (fun z => ?_) (fun _ => ?_)
            · have z40 : m = 40 := by
                have := V.int.inj (of_decide_eq_true z)
                omega
              walk_at "go"
              intro D hD
              refine lc_range (lo := 0) (n := Int.toNat 2) (fun j H' => Same H14 H' ∧ H' D = some (.lst ((List.replicate j true).map V.bl))) ⟨same_new hD _, upd_same⟩ ?_ ?_
              · rintro j H15 hj ⟨S15, hD15⟩
                rw [Int.zero_add]
                have hC15 := hW14.ct.same S15
                have hsl : (Sn m).length = 40 := by rw [Sn_len, z40]
                have hlt : j % 2 ^ k < 2 ^ k := Nat.mod_lt _ hw
                have h2k : (0 : Int) < ((2 ^ k : Nat) : Int) := by omega
                have hW15 : Ws (cAt mg "Counter") H15 p c k tg row ups outs (Sn m) := ⟨hC15, hW14.iv, hNt⟩
                walk_at "go"
                exact ⟨but_same hD S15 But.upd, by rw [upd_same, rep_snoc]⟩
              · rintro H15 ⟨S15, hD15⟩
                walk_at "go"
                exact S15
            · walk_at "go"
              exact fun _ _ h => h
          · rintro σ H15 ⟨w8, rfl, S15⟩
            have hsl := Sn_len (n := m)
            have hC15 := hW14.ct.same S15
            have hi15 := hC15.ins_
            walk_at "go"
            intro U18 H18 S18 hU18
            rw [Sn_outs hW14.iv] at hU18
            walk_at "go"
            intro U19 H19 S19 hU19
            walk_at "go"
            refine ite2 (fun c => absurd c (by rw [tupI_refl]; decide)) (fun _ => ?_)
            have hC19 := (hC15.same S18).same S19
            have hi19 := hC19.ins_
            walk_at "go"
            intro ns20 U20 H20 p1 p2 S20 hU20
            obtain rfl := Sn_ns p1 p2
            walk_at "go"
            intro U21 hU21
            generalize eH21 : upd _ U21 _ = H21
            have SH21 := newS eH21 hU21
            have oU21 := newO eH21
            rw [rg_iN] at oU21
            walk_at "go"
            refine ite2 (fun c => absurd c (by rw [tupI_refl]; decide)) (fun _ => ?_)
            have hC21 := (hC19.same S20).same SH21
            have hi21 := hC21.ins_
            have hsum := Sn_sum hW14.iv
            walk_at "go"
            refine ite2 (fun z => absurd z (by rw [dec_ne (congrArg V.int (by rw [hsum, hsl]; omega))]; decide)) (fun _ => ?_)
            walk_at "go"
            refine S2.trans (same_kp (S5.trans S6) (k14.trans (kp_same (S15.trans (S18.trans (S19.trans (S20.trans SH21)))))) ?_)
            intro x hx
            simp only [List.mem_cons, List.not_mem_nil, or_false] at hx
            rcases hx with rfl | rfl | rfl | rfl
            · exact np
            · exact none_back S5 (fr5 _ (by simp))
            · exact none_back S5 (fr5 _ (by simp))
            · exact none_back S5 (fr5 _ (by simp))
      · intro _ Q' q'
        exact q' _ _ ⟨40, rfl, by decide, b12, po12⟩
      · intro _ Q' q'
        walk_at "go"
        intro d13 H13 g0 g1 b13 po13
        obtain ⟨m, rfl⟩ : ∃ m : Nat, d13 = (m : Int) := ⟨d13.toNat, by omega⟩
        exact q' _ _ ⟨m, rfl, by omega, b12.trans b13, po13⟩
    · rintro σ H2 ⟨v1, v2, v3, v4, v5, v6, v7, v8, rfl, S2⟩
      exact q _
end
structure AllD (K : PySem.W.Frag) (mg : Str → Option Value) : Prop where
  d_is_whole : Df K mg "is_whole" s_is_whole ["thing"]
  d_is_within : Df K mg "is_within" s_is_within ["thing", "least", "most"]
  d_want_net : Dfd K mg "want_net" s_want_net ["k", "deepest"] []
  d_merged : Df K mg "merged" s_merged ["one", "other"]
  d_counted_lines : Df K mg "counted_lines" s_counted_lines ["lines"]
  d_counting_net : Df K mg "counting_net" s_counting_net ["k"]
  d__law_cell : Df K mg "_law_cell" s__law_cell ["_law_script", "_law_k"]
  d__law_pot : Df K mg "_law_pot" s__law_pot ["_law_script", "_law_k"]
  d__law_draw : Df K mg "_law_draw" s__law_draw ["_law_pot_here", "_law_many"]
  d__law_gone : Df K mg "_law_gone" s__law_gone ["_law_counter", "_law_token", "_law_many"]
  d__law_outs : Df K mg "_law_outs" s__law_outs ["_law_many_in", "_law_lines"]
  d__law_is_full : Df K mg "_law_is_full" s__law_is_full ["_law_counter", "_law_line"]
  d_law : Df K mg "law" s_law ["_law_script"]
  d_Counter____init__ : DfI K (cAt mg "Counter") "Counter.__init__" s_Counter____init__ ["self", "k"]
  d_Counter__come : DfM K (cAt mg "Counter") "come" "Counter.come" s_Counter__come ["self", "line"]
  d_Counter__go : DfM K (cAt mg "Counter") "go" "Counter.go" s_Counter__go ["self", "token"]
  d_Counter__inside : DfM K (cAt mg "Counter") "inside" "Counter.inside" s_Counter__inside ["self"]
  d_Counter__outs : DfM K (cAt mg "Counter") "outs" "Counter.outs" s_Counter__outs ["self"]
  d_Counter__told : DfM K (cAt mg "Counter") "told" "Counter.told" s_Counter__told ["self"]
  d_Counter__next_toggle : DfM K (cAt mg "Counter") "next_toggle" "Counter.next_toggle" s_Counter__next_toggle ["self", "line", "begin"]
  d_Counter__come_out : DfM K (cAt mg "Counter") "come_out" "Counter.come_out" s_Counter__come_out ["self", "token", "line"]
  bl : Bl K mg
theorem all_mk {w : World} {K : PySem.W.Frag} {h : Heap} {mg : Str → Option Value} (X : K.In h) (G : h.Ns mainGlobals mg)
    {f1 f2 f3 f4 f5 f6 f7 f8 f9 f10 f11 f12 f13 f14 f15 f16 f17 f18 f19 f20 f21 : Addr} {od1 an1 od2 an2 od3 an3 od4 an4 od5 an5 od6 an6 od7 an7 od8 an8 od9 an9 od10 an10 od11 an11 od12 an12 od13 an13 od14 an14 od15 an15 od16 an16 od17 an17 od18 an18 od19 an19 od20 an20 od21 an21 : Option Addr} {sl1 sl2 sl3 sl4 sl5 sl6 sl7 sl8 sl9 sl10 sl11 sl12 sl13 sl14 sl15 sl16 sl17 sl18 sl19 sl20 sl21 : Array (Option Value)} {oc1 kV1 dc1 pm1 cd1 ct1 oc2 kV2 dc2 pm2 cd2 ct2 oc3 kV3 dc3 pm3 cd3 ct3 oc4 kV4 dc4 pm4 cd4 ct4 oc5 kV5 dc5 pm5 cd5 ct5 oc6 kV6 dc6 pm6 cd6 ct6 oc7 kV7 dc7 pm7 cd7 ct7 oc8 kV8 dc8 pm8 cd8 ct8 oc9 kV9 dc9 pm9 cd9 ct9 oc10 kV10 dc10 pm10 cd10 ct10 oc11 kV11 dc11 pm11 cd11 ct11 oc12 kV12 dc12 pm12 cd12 ct12 oc13 kV13 dc13 pm13 cd13 ct13 oc14 kV14 dc14 pm14 cd14 ct14 oc15 kV15 dc15 pm15 cd15 ct15 oc16 kV16 dc16 pm16 cd16 ct16 oc17 kV17 dc17 pm17 cd17 ct17 oc18 kV18 dc18 pm18 cd18 ct18 oc19 kV19 dc19 pm19 cd19 ct19 oc20 kV20 dc20 pm20 cd20 ct20 oc21 kV21 dc21 pm21 cd21 ct21 : Value}
    {da3 : Addr}
    {C0 : Addr} (aC0 : PySem.W.nsIn K mainGlobals "Counter" = some (some (.ref C0))) (pg0 : PySem.W.plainGet K C0 Str.empty = true) (hd0 : PySem.W.hasDictIn K C0 = true) (po0 : PySem.W.plainOver K C0 = true) (sa0 : PySem.W.findIn K (.ref C0) "__setattr__" = some (some (.builtin "object.__setattr__"))) (mk0 : PySem.W.makesIn K C0 = true) (kc0 : PySem.W.keepIn K (.ref C0) = true)
    (nf0_0 : PySem.W.findIn K (.ref C0) "at" = some none)
    (nf0_1 : PySem.W.findIn K (.ref C0) "many_out" = some none)
    (nf0_2 : PySem.W.findIn K (.ref C0) "pairs" = some none)
    (nf0_3 : PySem.W.findIn K (.ref C0) "row" = some none)
    (nf0_4 : PySem.W.findIn K (.ref C0) "ups" = some none)
    {E0 : Addr} (aE0 : PySem.W.nsIn K mainGlobals "TooMany" = some (some (.ref E0))) (xE0 : PySem.W.excIn K E0 [.type "ValueError", .type "Exception", .type "BaseException", .type "object"] "ValueError.__new__" = true) (kE0 : PySem.W.keepIn K (.ref E0) = true) (bE0 : PySem.W.subIn K (.ref E0) (.type "BaseException") = some true) (tE0 : PySem.W.typeIn K (.ref E0) = some (.type "type")) (iE0 : PySem.W.isClsIn K E0 = true)
    (sE0_0 : PySem.W.subIn K (.ref E0) (.ref E0) = some true)
    (a1 : PySem.W.nsIn K mainGlobals "is_whole" = some (some (.ref f1))) (l1 : K.lookup f1 = some ⟨oc1, od1, .func (PySem.W.fnOf "is_whole" "is_whole" (defArgs s_is_whole) (defBody s_is_whole) (defScope s_is_whole) .none kV1 dc1 pm1 an1 cd1 ct1), sl1⟩) (c1 : PySem.W.codeIn K cd1 "is_whole" = true) (k1 : PySem.W.keepIn K (.ref f1) = true)
    (a2 : PySem.W.nsIn K mainGlobals "is_within" = some (some (.ref f2))) (l2 : K.lookup f2 = some ⟨oc2, od2, .func (PySem.W.fnOf "is_within" "is_within" (defArgs s_is_within) (defBody s_is_within) (defScope s_is_within) .none kV2 dc2 pm2 an2 cd2 ct2), sl2⟩) (c2 : PySem.W.codeIn K cd2 "is_within" = true) (k2 : PySem.W.keepIn K (.ref f2) = true)
    (a3 : PySem.W.nsIn K mainGlobals "want_net" = some (some (.ref f3))) (l3 : K.lookup f3 = some ⟨oc3, od3, .func (PySem.W.fnOf "want_net" "want_net" (defArgs s_want_net) (defBody s_want_net) (defScope s_want_net) (.ref da3) kV3 dc3 pm3 an3 cd3 ct3), sl3⟩) (c3 : PySem.W.codeIn K cd3 "want_net" = true) (k3 : PySem.W.keepIn K (.ref f3) = true)
    {dt3_0 : Tok} {dd3 : Option Addr} {dn3 : Nat} {dz3 : Array (Option Value)} (dl3 : K.lookup da3 = some ⟨.type "tuple", dd3, .seq #[.int 4 dt3_0] dn3, dz3⟩)
    (a4 : PySem.W.nsIn K mainGlobals "merged" = some (some (.ref f4))) (l4 : K.lookup f4 = some ⟨oc4, od4, .func (PySem.W.fnOf "merged" "merged" (defArgs s_merged) (defBody s_merged) (defScope s_merged) .none kV4 dc4 pm4 an4 cd4 ct4), sl4⟩) (c4 : PySem.W.codeIn K cd4 "merged" = true) (k4 : PySem.W.keepIn K (.ref f4) = true)
    (a5 : PySem.W.nsIn K mainGlobals "counted_lines" = some (some (.ref f5))) (l5 : K.lookup f5 = some ⟨oc5, od5, .func (PySem.W.fnOf "counted_lines" "counted_lines" (defArgs s_counted_lines) (defBody s_counted_lines) (defScope s_counted_lines) .none kV5 dc5 pm5 an5 cd5 ct5), sl5⟩) (c5 : PySem.W.codeIn K cd5 "counted_lines" = true) (k5 : PySem.W.keepIn K (.ref f5) = true)
    (a6 : PySem.W.nsIn K mainGlobals "counting_net" = some (some (.ref f6))) (l6 : K.lookup f6 = some ⟨oc6, od6, .func (PySem.W.fnOf "counting_net" "counting_net" (defArgs s_counting_net) (defBody s_counting_net) (defScope s_counting_net) .none kV6 dc6 pm6 an6 cd6 ct6), sl6⟩) (c6 : PySem.W.codeIn K cd6 "counting_net" = true) (k6 : PySem.W.keepIn K (.ref f6) = true)
    (a7 : PySem.W.nsIn K mainGlobals "_law_cell" = some (some (.ref f7))) (l7 : K.lookup f7 = some ⟨oc7, od7, .func (PySem.W.fnOf "_law_cell" "_law_cell" (defArgs s__law_cell) (defBody s__law_cell) (defScope s__law_cell) .none kV7 dc7 pm7 an7 cd7 ct7), sl7⟩) (c7 : PySem.W.codeIn K cd7 "_law_cell" = true) (k7 : PySem.W.keepIn K (.ref f7) = true)
    (a8 : PySem.W.nsIn K mainGlobals "_law_pot" = some (some (.ref f8))) (l8 : K.lookup f8 = some ⟨oc8, od8, .func (PySem.W.fnOf "_law_pot" "_law_pot" (defArgs s__law_pot) (defBody s__law_pot) (defScope s__law_pot) .none kV8 dc8 pm8 an8 cd8 ct8), sl8⟩) (c8 : PySem.W.codeIn K cd8 "_law_pot" = true) (k8 : PySem.W.keepIn K (.ref f8) = true)
    (a9 : PySem.W.nsIn K mainGlobals "_law_draw" = some (some (.ref f9))) (l9 : K.lookup f9 = some ⟨oc9, od9, .func (PySem.W.fnOf "_law_draw" "_law_draw" (defArgs s__law_draw) (defBody s__law_draw) (defScope s__law_draw) .none kV9 dc9 pm9 an9 cd9 ct9), sl9⟩) (c9 : PySem.W.codeIn K cd9 "_law_draw" = true) (k9 : PySem.W.keepIn K (.ref f9) = true)
    (a10 : PySem.W.nsIn K mainGlobals "_law_gone" = some (some (.ref f10))) (l10 : K.lookup f10 = some ⟨oc10, od10, .func (PySem.W.fnOf "_law_gone" "_law_gone" (defArgs s__law_gone) (defBody s__law_gone) (defScope s__law_gone) .none kV10 dc10 pm10 an10 cd10 ct10), sl10⟩) (c10 : PySem.W.codeIn K cd10 "_law_gone" = true) (k10 : PySem.W.keepIn K (.ref f10) = true)
    (a11 : PySem.W.nsIn K mainGlobals "_law_outs" = some (some (.ref f11))) (l11 : K.lookup f11 = some ⟨oc11, od11, .func (PySem.W.fnOf "_law_outs" "_law_outs" (defArgs s__law_outs) (defBody s__law_outs) (defScope s__law_outs) .none kV11 dc11 pm11 an11 cd11 ct11), sl11⟩) (c11 : PySem.W.codeIn K cd11 "_law_outs" = true) (k11 : PySem.W.keepIn K (.ref f11) = true)
    (a12 : PySem.W.nsIn K mainGlobals "_law_is_full" = some (some (.ref f12))) (l12 : K.lookup f12 = some ⟨oc12, od12, .func (PySem.W.fnOf "_law_is_full" "_law_is_full" (defArgs s__law_is_full) (defBody s__law_is_full) (defScope s__law_is_full) .none kV12 dc12 pm12 an12 cd12 ct12), sl12⟩) (c12 : PySem.W.codeIn K cd12 "_law_is_full" = true) (k12 : PySem.W.keepIn K (.ref f12) = true)
    (a13 : PySem.W.nsIn K mainGlobals "law" = some (some (.ref f13))) (l13 : K.lookup f13 = some ⟨oc13, od13, .func (PySem.W.fnOf "law" "law" (defArgs s_law) (defBody s_law) (defScope s_law) .none kV13 dc13 pm13 an13 cd13 ct13), sl13⟩) (c13 : PySem.W.codeIn K cd13 "law" = true) (k13 : PySem.W.keepIn K (.ref f13) = true)
    (a14 : PySem.W.findIn K (.ref C0) "__init__" = some (some (.ref f14))) (i14 : PySem.W.isFn K (.ref f14) = true) (l14 : K.lookup f14 = some ⟨oc14, od14, .func (PySem.W.fnOf "__init__" "Counter.__init__" (defArgs s_Counter____init__) (defBody s_Counter____init__) (defScope s_Counter____init__) .none kV14 dc14 pm14 an14 cd14 ct14), sl14⟩) (c14 : PySem.W.codeIn K cd14 "Counter.__init__" = true) (k14 : PySem.W.keepIn K (.ref f14) = true)
    (a15 : PySem.W.findIn K (.ref C0) "come" = some (some (.ref f15))) (i15 : PySem.W.isFn K (.ref f15) = true) (l15 : K.lookup f15 = some ⟨oc15, od15, .func (PySem.W.fnOf "come" "Counter.come" (defArgs s_Counter__come) (defBody s_Counter__come) (defScope s_Counter__come) .none kV15 dc15 pm15 an15 cd15 ct15), sl15⟩) (c15 : PySem.W.codeIn K cd15 "Counter.come" = true) (k15 : PySem.W.keepIn K (.ref f15) = true)
    (a16 : PySem.W.findIn K (.ref C0) "go" = some (some (.ref f16))) (i16 : PySem.W.isFn K (.ref f16) = true) (l16 : K.lookup f16 = some ⟨oc16, od16, .func (PySem.W.fnOf "go" "Counter.go" (defArgs s_Counter__go) (defBody s_Counter__go) (defScope s_Counter__go) .none kV16 dc16 pm16 an16 cd16 ct16), sl16⟩) (c16 : PySem.W.codeIn K cd16 "Counter.go" = true) (k16 : PySem.W.keepIn K (.ref f16) = true)
    (a17 : PySem.W.findIn K (.ref C0) "inside" = some (some (.ref f17))) (i17 : PySem.W.isFn K (.ref f17) = true) (l17 : K.lookup f17 = some ⟨oc17, od17, .func (PySem.W.fnOf "inside" "Counter.inside" (defArgs s_Counter__inside) (defBody s_Counter__inside) (defScope s_Counter__inside) .none kV17 dc17 pm17 an17 cd17 ct17), sl17⟩) (c17 : PySem.W.codeIn K cd17 "Counter.inside" = true) (k17 : PySem.W.keepIn K (.ref f17) = true)
    (a18 : PySem.W.findIn K (.ref C0) "outs" = some (some (.ref f18))) (i18 : PySem.W.isFn K (.ref f18) = true) (l18 : K.lookup f18 = some ⟨oc18, od18, .func (PySem.W.fnOf "outs" "Counter.outs" (defArgs s_Counter__outs) (defBody s_Counter__outs) (defScope s_Counter__outs) .none kV18 dc18 pm18 an18 cd18 ct18), sl18⟩) (c18 : PySem.W.codeIn K cd18 "Counter.outs" = true) (k18 : PySem.W.keepIn K (.ref f18) = true)
    (a19 : PySem.W.findIn K (.ref C0) "told" = some (some (.ref f19))) (i19 : PySem.W.isFn K (.ref f19) = true) (l19 : K.lookup f19 = some ⟨oc19, od19, .func (PySem.W.fnOf "told" "Counter.told" (defArgs s_Counter__told) (defBody s_Counter__told) (defScope s_Counter__told) .none kV19 dc19 pm19 an19 cd19 ct19), sl19⟩) (c19 : PySem.W.codeIn K cd19 "Counter.told" = true) (k19 : PySem.W.keepIn K (.ref f19) = true)
    (a20 : PySem.W.findIn K (.ref C0) "next_toggle" = some (some (.ref f20))) (i20 : PySem.W.isFn K (.ref f20) = true) (l20 : K.lookup f20 = some ⟨oc20, od20, .func (PySem.W.fnOf "next_toggle" "Counter.next_toggle" (defArgs s_Counter__next_toggle) (defBody s_Counter__next_toggle) (defScope s_Counter__next_toggle) .none kV20 dc20 pm20 an20 cd20 ct20), sl20⟩) (c20 : PySem.W.codeIn K cd20 "Counter.next_toggle" = true) (k20 : PySem.W.keepIn K (.ref f20) = true)
    (a21 : PySem.W.findIn K (.ref C0) "come_out" = some (some (.ref f21))) (i21 : PySem.W.isFn K (.ref f21) = true) (l21 : K.lookup f21 = some ⟨oc21, od21, .func (PySem.W.fnOf "come_out" "Counter.come_out" (defArgs s_Counter__come_out) (defBody s_Counter__come_out) (defScope s_Counter__come_out) .none kV21 dc21 pm21 an21 cd21 ct21), sl21⟩) (c21 : PySem.W.codeIn K cd21 "Counter.come_out" = true) (k21 : PySem.W.keepIn K (.ref f21) = true)
    (z0 : PySem.W.nsIn K mainGlobals "all" = some none)
    (z1 : PySem.W.nsIn K mainGlobals "bool" = some none)
    (z2 : PySem.W.nsIn K mainGlobals "divmod" = some none)
    (z3 : PySem.W.nsIn K mainGlobals "int" = some none)
    (z4 : PySem.W.nsIn K mainGlobals "isinstance" = some none)
    (z5 : PySem.W.nsIn K mainGlobals "len" = some none)
    (z6 : PySem.W.nsIn K mainGlobals "list" = some none)
    (z7 : PySem.W.nsIn K mainGlobals "max" = some none)
    (z8 : PySem.W.nsIn K mainGlobals "min" = some none)
    (z9 : PySem.W.nsIn K mainGlobals "range" = some none)
    (z10 : PySem.W.nsIn K mainGlobals "sorted" = some none)
    (z11 : PySem.W.nsIn K mainGlobals "sum" = some none)
    (z12 : PySem.W.nsIn K mainGlobals "tuple" = some none)
    (z13 : PySem.W.nsIn K mainGlobals "zip" = some none)
    {tc0 : Tok} (cst0 : PySem.W.nsIn K mainGlobals "DEEPEST" = some (some (.int (3) tc0)))
    {tc1 : Tok} (cst1 : PySem.W.nsIn K mainGlobals "MOST_TOKENS" = some (some (.int (40) tc1)))
    {tc2 : Tok} (cst2 : PySem.W.nsIn K mainGlobals "OUT" = some (some (.int (-1) tc2)))
    : AllD K mg := by
  exact ⟨Df.of l1 c1 k1 (PySem.W.mg_of X G a1) (fun _ _ _ _ _ _ us hl => match us, hl with | [_], _ => rfl), Df.of l2 c2 k2 (PySem.W.mg_of X G a2) (fun _ _ _ _ _ _ us hl => match us, hl with | [_, _, _], _ => rfl), Dfd.ofAll (n := 2) l3 c3 k3 (PySem.W.mg_of X G a3) dl3 rfl rfl (fun us hl => match us, hl with | [_, _], _ => ⟨_, rfl, rfl⟩), Df.of l4 c4 k4 (PySem.W.mg_of X G a4) (fun _ _ _ _ _ _ us hl => match us, hl with | [_, _], _ => rfl), Df.of l5 c5 k5 (PySem.W.mg_of X G a5) (fun _ _ _ _ _ _ us hl => match us, hl with | [_], _ => rfl), Df.of l6 c6 k6 (PySem.W.mg_of X G a6) (fun _ _ _ _ _ _ us hl => match us, hl with | [_], _ => rfl), Df.of l7 c7 k7 (PySem.W.mg_of X G a7) (fun _ _ _ _ _ _ us hl => match us, hl with | [_, _], _ => rfl), Df.of l8 c8 k8 (PySem.W.mg_of X G a8) (fun _ _ _ _ _ _ us hl => match us, hl with | [_, _], _ => rfl), Df.of l9 c9 k9 (PySem.W.mg_of X G a9) (fun _ _ _ _ _ _ us hl => match us, hl with | [_, _], _ => rfl), Df.of l10 c10 k10 (PySem.W.mg_of X G a10) (fun _ _ _ _ _ _ us hl => match us, hl with | [_, _, _], _ => rfl), Df.of l11 c11 k11 (PySem.W.mg_of X G a11) (fun _ _ _ _ _ _ us hl => match us, hl with | [_, _], _ => rfl), Df.of l12 c12 k12 (PySem.W.mg_of X G a12) (fun _ _ _ _ _ _ us hl => match us, hl with | [_, _], _ => rfl), Df.of l13 c13 k13 (PySem.W.mg_of X G a13) (fun _ _ _ _ _ _ us hl => match us, hl with | [_], _ => rfl), DfI.of (PySem.W.mg_of X G aC0) a14 i14 l14 c14 k14 mk0 kc0 (fun _ _ _ _ _ _ us hl => match us, hl with | [_, _], _ => rfl), DfM.of (PySem.W.mg_of X G aC0) a15 i15 l15 c15 k15 (fun _ _ _ _ _ _ us hl => match us, hl with | [_, _], _ => rfl), DfM.of (PySem.W.mg_of X G aC0) a16 i16 l16 c16 k16 (fun _ _ _ _ _ _ us hl => match us, hl with | [_, _], _ => rfl), DfM.of (PySem.W.mg_of X G aC0) a17 i17 l17 c17 k17 (fun _ _ _ _ _ _ us hl => match us, hl with | [_], _ => rfl), DfM.of (PySem.W.mg_of X G aC0) a18 i18 l18 c18 k18 (fun _ _ _ _ _ _ us hl => match us, hl with | [_], _ => rfl), DfM.of (PySem.W.mg_of X G aC0) a19 i19 l19 c19 k19 (fun _ _ _ _ _ _ us hl => match us, hl with | [_], _ => rfl), DfM.of (PySem.W.mg_of X G aC0) a20 i20 l20 c20 k20 (fun _ _ _ _ _ _ us hl => match us, hl with | [_, _, _], _ => rfl), DfM.of (PySem.W.mg_of X G aC0) a21 i21 l21 c21 k21 (fun _ _ _ _ _ _ us hl => match us, hl with | [_, _, _], _ => rfl), ⟨PySem.W.mg_none_of X G z0, PySem.W.mg_none_of X G z1, PySem.W.mg_none_of X G z2, PySem.W.mg_none_of X G z3, PySem.W.mg_none_of X G z4, PySem.W.mg_none_of X G z5, PySem.W.mg_none_of X G z6, PySem.W.mg_none_of X G z7, PySem.W.mg_none_of X G z8, PySem.W.mg_none_of X G z9, PySem.W.mg_none_of X G z10, PySem.W.mg_none_of X G z11, PySem.W.mg_none_of X G z12, PySem.W.mg_none_of X G z13, ⟨_, PySem.W.mg_of X G cst0⟩, ⟨_, PySem.W.mg_of X G cst1⟩, ⟨_, PySem.W.mg_of X G cst2⟩, ExcF.of (PySem.W.mg_of X G aE0) xE0 kE0 bE0 tE0 iE0, SubF.of (PySem.W.mg_of X G aE0) (PySem.W.mg_of X G aE0) sE0_0, ClsF.of (PySem.W.mg_of X G aC0) ⟨pg0, hd0, po0, sa0⟩ (by intro f hf; simp only [List.mem_cons, List.not_mem_nil, or_false] at hf; rcases hf with rfl | rfl | rfl | rfl | rfl <;> assumption)⟩⟩

theorem law_fd {P : Program} {w : World} {K : PySem.W.Frag} {mg : Str → Option Value} {fa : Addr} (A : AllD K mg) (hfa : mg "law" = some (.ref fa)) :
    ∃ fd : FuncData, (∀ (s : Shared) (v : Value), BindsTo s fd ⟨[v], []⟩ [("_law_script", v)]) ∧ ∀ base : Heap, K.In base → base.Ns mainGlobals mg → FnG P w K mg base CX0 15 fa fd ["_law_script"] (spLaw K) := by
  obtain ⟨f, fd, F, m, b⟩ := A.d_law.ex
  have e := hfa.symm.trans m
  cases e
  refine ⟨fd, fun s v => by obtain ⟨oc, od, kV, doc, pm, an, cdv, ct, osl, rfl, lk, hcd⟩ := F.ex; exact .of_eq rfl, fun base _ _ => ?_⟩
  have B := A.bl
  have D_is_whole : Dn P w K mg base 1 "is_whole" ["thing"] spIsWhole := k_is_whole B A.d_is_whole 
  have D_is_within : Dn P w K mg base 2 "is_within" ["thing", "least", "most"] spIsWithin := k_is_within B A.d_is_within D_is_whole
  have D_want_net : DnD P w K mg base 3 "want_net" ["k", "deepest"] [] spWantNet := k_want_net B A.d_want_net D_is_within
  have D_merged : Dn P w K mg base 5 "merged" ["one", "other"] ((spMerged K) 4) := k_merged B A.d_merged 
  have D_counted_lines : Dn P w K mg base 10 "counted_lines" ["lines"] ((spCl K) 4) := k_counted_lines B A.d_counted_lines D_merged
  have D_counting_net : Dn P w K mg base 12 "counting_net" ["k"] (spNet K) := k_counting_net B A.d_counting_net D_want_net D_counted_lines
  have D_Counter____init__ : DnI P w K mg base (cAt mg "Counter") 13 ["self", "k"] (spCtInit K (cAt mg "Counter")) := k_Counter____init__ B A.d_Counter____init__ D_counting_net
  have D_Counter__next_toggle : DnM P w K mg base (cAt mg "Counter") 1 "next_toggle" ["self", "line", "begin"] (spNext K (cAt mg "Counter")) := k_Counter__next_toggle B A.d_Counter__next_toggle 
  have D_Counter__come_out : DnM P w K mg base (cAt mg "Counter") 1 "come_out" ["self", "token", "line"] (spOut K (cAt mg "Counter")) := k_Counter__come_out B A.d_Counter__come_out 
  have D_Counter__go : DnM P w K mg base (cAt mg "Counter") 5 "go" ["self", "token"] (spGo K (cAt mg "Counter")) := k_Counter__go B A.d_Counter__go D_is_within D_Counter__next_toggle D_Counter__come_out
  have D_Counter__outs : DnM P w K mg base (cAt mg "Counter") 1 "outs" ["self"] (spOuts K (cAt mg "Counter")) := k_Counter__outs B A.d_Counter__outs 
  have D_Counter__inside : DnM P w K mg base (cAt mg "Counter") 1 "inside" ["self"] (spInside K (cAt mg "Counter")) := k_Counter__inside B A.d_Counter__inside 
  have D_Counter__told : DnM P w K mg base (cAt mg "Counter") 1 "told" ["self"] (spTold K (cAt mg "Counter")) := k_Counter__told B A.d_Counter__told 
  have D_Counter__come : DxM P w K mg base (cAt mg "Counter") 5 "come" ["self", "line"] (spCome K (cAt mg "Counter") (cAt mg "TooMany")) := k_Counter__come B A.d_Counter__come D_is_within
  have D__law_cell : Dn P w K mg base 1 "_law_cell" ["_law_script", "_law_k"] (spCell K) := k__law_cell B A.d__law_cell 
  have D__law_pot : Dn P w K mg base 2 "_law_pot" ["_law_script", "_law_k"] (spPot K) := k__law_pot B A.d__law_pot D__law_cell
  have D__law_draw : Dn P w K mg base 1 "_law_draw" ["_law_pot_here", "_law_many"] spTake := k__law_draw B A.d__law_draw 
  have D__law_gone : Dn P w K mg base 6 "_law_gone" ["_law_counter", "_law_token", "_law_many"] (spGone K (cAt mg "Counter")) := k__law_gone B A.d__law_gone D_Counter__go
  have D__law_outs : Dn P w K mg base 1 "_law_outs" ["_law_many_in", "_law_lines"] (spLOuts K) := k__law_outs B A.d__law_outs 
  have D__law_is_full : Dn P w K mg base 6 "_law_is_full" ["_law_counter", "_law_line"] (spFull K (cAt mg "Counter")) := k__law_is_full B A.d__law_is_full D_Counter__come
  exact k_law B F D_Counter____init__ D__law_pot D__law_draw D_Counter__come D_Counter__outs D_Counter__told D_Counter__inside D__law_gone D__law_outs D__law_is_full

theorem walk {l : PySem.W.OpenLaw} {q : Program} {loose : List Str} {XP : (Str → Option Value) → Heap → Prop} {YP : World → Heap → Prop} {d : DefRec} {K : Params → PySem.W.Frag} (hn : l.most = some 63) (hdf : d.params.defaults = [])
    (hY : ∀ (w : World) (h : Heap), YP w h → (K w.params).In h) (hname : d.name = "law") (F : ∀ (w : World) (mg : Str → Option Value) (h : Heap), (K w.params).In h → h.Ns mainGlobals mg → AllD (K w.params) mg) :
    PySem.W.WalkO q loose XP YP l.row.toRowW d [] (fun f vs => PySem.call f vs) :=
  walk_G (n := 63) (k := 15) (x := "_law_script") (sp := spLaw) hn (by decide) hdf ⟨rfl, by decide, by decide⟩ hY
    (fun w mg fa h KX G hfa => law_fd (F w mg h KX G) (by rw [hname] at hfa; exact hfa)) fun _ _ a ns hl hS => ⟨a, ns, rfl, hS, hl, fun _ => rfl⟩
end Toy
open PySem PySem.W PyProof.Rows
set_option maxRecDepth 100000 in
set_option maxHeartbeats 0 in
theorem PySem.Challenge.cw_joinedasks_k85_whole_tokens_in_a_row_holds : PySem.Challenge.rw_joinedasks_k85_whole_tokens_in_a_row.Holds := by
  w_on; o_law; k_head; (case hw => w_witness2)
  k_fill
  refine Toy.walk (l := PySem.Challenge.rw_joinedasks_k85_whole_tokens_in_a_row) rfl rfl (fun w h Y => PySem.W.kIn_of Y) rfl ?F
  case F =>
    intro w mg h KX G
    refine' Toy.all_mk (w := w) KX G ?aC0 ?pg0 ?hd0 ?po0 ?sa0 ?mk0 ?kc0 ?nf0_0 ?nf0_1 ?nf0_2 ?nf0_3 ?nf0_4 ?aE0 ?xE0 ?kE0 ?bE0 ?tE0 ?iE0 ?sE0_0 ?a1 ?l1 ?c1 ?k1 ?a2 ?l2 ?c2 ?k2 ?a3 ?l3 ?c3 ?k3 ?dl3 ?a4 ?l4 ?c4 ?k4 ?a5 ?l5 ?c5 ?k5 ?a6 ?l6 ?c6 ?k6 ?a7 ?l7 ?c7 ?k7 ?a8 ?l8 ?c8 ?k8 ?a9 ?l9 ?c9 ?k9 ?a10 ?l10 ?c10 ?k10 ?a11 ?l11 ?c11 ?k11 ?a12 ?l12 ?c12 ?k12 ?a13 ?l13 ?c13 ?k13 ?a14 ?i14 ?l14 ?c14 ?k14 ?a15 ?i15 ?l15 ?c15 ?k15 ?a16 ?i16 ?l16 ?c16 ?k16 ?a17 ?i17 ?l17 ?c17 ?k17 ?a18 ?i18 ?l18 ?c18 ?k18 ?a19 ?i19 ?l19 ?c19 ?k19 ?a20 ?i20 ?l20 ?c20 ?k20 ?a21 ?i21 ?l21 ?c21 ?k21 ?z0 ?z1 ?z2 ?z3 ?z4 ?z5 ?z6 ?z7 ?z8 ?z9 ?z10 ?z11 ?z12 ?z13 ?cst0 ?cst1 ?cst2
    (case aC0 => k_is)
    (case pg0 => k_is)
    (case hd0 => k_is)
    (case po0 => k_is)
    (case sa0 => k_is)
    (case mk0 => k_is)
    (case kc0 => k_is)
    (case nf0_0 => k_is)
    (case nf0_1 => k_is)
    (case nf0_2 => k_is)
    (case nf0_3 => k_is)
    (case nf0_4 => k_is)
    (case aE0 => k_is)
    (case xE0 => k_exc)
    (case kE0 => k_is)
    (case bE0 => k_is)
    (case tE0 => k_is)
    (case iE0 => k_is)
    (case sE0_0 => first | rfl | k_is)
    (case a1 => k_is)
    (case l1 => k_is)
    (case c1 => k_is)
    (case k1 => k_is)
    (case a2 => k_is)
    (case l2 => k_is)
    (case c2 => k_is)
    (case k2 => k_is)
    (case a3 => k_is)
    (case l3 => k_is)
    (case c3 => k_is)
    (case k3 => k_is)
    (case dl3 => k_is)
    (case a4 => k_is)
    (case l4 => k_is)
    (case c4 => k_is)
    (case k4 => k_is)
    (case a5 => k_is)
    (case l5 => k_is)
    (case c5 => k_is)
    (case k5 => k_is)
    (case a6 => k_is)
    (case l6 => k_is)
    (case c6 => k_is)
    (case k6 => k_is)
    (case a7 => k_is)
    (case l7 => k_is)
    (case c7 => k_is)
    (case k7 => k_is)
    (case a8 => k_is)
    (case l8 => k_is)
    (case c8 => k_is)
    (case k8 => k_is)
    (case a9 => k_is)
    (case l9 => k_is)
    (case c9 => k_is)
    (case k9 => k_is)
    (case a10 => k_is)
    (case l10 => k_is)
    (case c10 => k_is)
    (case k10 => k_is)
    (case a11 => k_is)
    (case l11 => k_is)
    (case c11 => k_is)
    (case k11 => k_is)
    (case a12 => k_is)
    (case l12 => k_is)
    (case c12 => k_is)
    (case k12 => k_is)
    (case a13 => k_is)
    (case l13 => k_is)
    (case c13 => k_is)
    (case k13 => k_is)
    (case a14 => k_is)
    (case i14 => k_is)
    (case l14 => k_is)
    (case c14 => k_is)
    (case k14 => k_is)
    (case a15 => k_is)
    (case i15 => k_is)
    (case l15 => k_is)
    (case c15 => k_is)
    (case k15 => k_is)
    (case a16 => k_is)
    (case i16 => k_is)
    (case l16 => k_is)
    (case c16 => k_is)
    (case k16 => k_is)
    (case a17 => k_is)
    (case i17 => k_is)
    (case l17 => k_is)
    (case c17 => k_is)
    (case k17 => k_is)
    (case a18 => k_is)
    (case i18 => k_is)
    (case l18 => k_is)
    (case c18 => k_is)
    (case k18 => k_is)
    (case a19 => k_is)
    (case i19 => k_is)
    (case l19 => k_is)
    (case c19 => k_is)
    (case k19 => k_is)
    (case a20 => k_is)
    (case i20 => k_is)
    (case l20 => k_is)
    (case c20 => k_is)
    (case k20 => k_is)
    (case a21 => k_is)
    (case i21 => k_is)
    (case l21 => k_is)
    (case c21 => k_is)
    (case k21 => k_is)
    (case z0 => k_is)
    (case z1 => k_is)
    (case z2 => k_is)
    (case z3 => k_is)
    (case z4 => k_is)
    (case z5 => k_is)
    (case z6 => k_is)
    (case z7 => k_is)
    (case z8 => k_is)
    (case z9 => k_is)
    (case z10 => k_is)
    (case z11 => k_is)
    (case z12 => k_is)
    (case z13 => k_is)
    (case cst0 => k_is)
    (case cst1 => k_is)
    (case cst2 => k_is)
#print axioms PySem.Challenge.cw_joinedasks_k85_whole_tokens_in_a_row_holds

