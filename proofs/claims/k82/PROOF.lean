import PyProof.Rows.All
import Wide.All
import OpenK.AllK
import Wide.FinOn
import HandS.ForMost
import HandS.Defaults
import HandS.WideBits
import HandS.Conv
import HandS.IsInst
import HandS.RaiseMore
import HandS.SortInts
import HandS.Style
import HandS.Codes
import HandS.ForExc
import HandS.TryMany
import HandS.Flow
import KE.KEqSeq
import PyProof.ReprRoads
import KE.GoesMore
import PySem.Challenge.RW_joinedasks_k82_addresses_by_steps
set_option Elab.async false
set_option linter.all false
set_option maxRecDepth 100000
set_option maxHeartbeats 4000000
set_option exponentiation.threshold 100000
namespace Toy
open PySem PySem.Spec PyProof.Rows L2
/-- a def of the text stands behind its name -/
structure Df (K : PySem.W.Frag) (mg : Str → Option Value) (x : Str) (st : Stmt) (ps : List Str) : Prop where
  ex : ∃ f fd, Fun K x x st f fd ∧ mg x = some (.ref f) ∧ Binds K fd ps []
theorem Df.of {K : PySem.W.Frag} {mg : Str → Option Value} {x : Str} {st : Stmt} {ps : List Str} {f : Addr} {oc : Value} {od an : Option Addr} {osl : Array (Option Value)} {kV doc pm cdv ct : Value}
    (l : K.lookup f = some ⟨oc, od, .func (PySem.W.fnOf x x (defArgs st) (defBody st) (defScope st) .none kV doc pm an cdv ct), osl⟩) (c : PySem.W.codeIn K cdv x = true) (k : PySem.W.keepIn K (.ref f) = true) (m : mg x = some (.ref f))
    (h : ∀ (kV doc pm : Value) (an : Option Addr) (cdv ct : Value) (us : List Value), us.length = ps.length → bindArgs (PySem.W.fnOf x x (defArgs st) (defBody st) (defScope st) .none kV doc pm an cdv ct) ⟨us, []⟩ = pure (ps.zip us)) : Df K mg x st ps :=
  ⟨_, _, fun_mk l c k, m, (fun_mk l c k).binds h⟩
end Toy
namespace Toy
open PySem PySem.Spec PyProof.Rows L2
/-- room for calls, and nothing is being shown (repr, str of containers ask that) -/
structure RoomG (k : Nat) (A : Around) : Prop where
  room : Room k A
  idle : A.guards = some []
theorem RoomG.less {j k : Nat} {A : Around} (r : RoomG k A) (h : j ≤ k) : RoomG j A := ⟨r.room.mono h, r.idle⟩
theorem RoomG.units {k : Nat} {A : Around} (r : RoomG k A) : A.units + 64 < cLine := r.room.units
theorem RoomG.in_ {k : Nat} {A : Around} (r : RoomG (k + 1) A) (env : Env) : RoomG k (A.deeper env) := ⟨r.room.deeper env, r.idle⟩
/-- a def's promise under such a call -/
structure FnG (P : Program) (w : World) (K : PySem.W.Frag) (mg : Str → Option Value) (base : Heap) (CX : CXT) (k : Nat) (f : Addr) (fd : FuncData) (ps : List Str) (sp : Sp) : Prop where
  arity : ∀ vs H Q E, sp vs H Q E → vs.length = ps.length
  go : ∀ {A : Around} {outer : List Env} {s : Shared} {H : Hp} {args : Args} {us : List Value} {vs : List V} {Q : VK} {E : XK}, RoomG k A → Env0 P w K mg base A outer s H →
    BindsTo s fd args (ps.zip us) → Vals vs us → sp vs H Q E → codeAny (model P w) A (.call (.ref f) args) (CR CX outer P w H s Q E) s
section
variable {P : Program} {w : World} {K : PySem.W.Frag} {mg : Str → Option Value} {base : Heap} {CX : CXT}
/-- a body that ends well ends the call well -/
theorem flow_end {N : List Str} {qual : Str} {scope : Scope} {f : Addr} {cd : Value} {A : Around} {outer : List Env} {s : Shared} {H : Hp} {Q : VK} {E : XK} {fl : Flow} {s' : Shared}
    (h : SP (cxOf CX P w K mg base N qual scope f cd A outer s H E) [] { nx := fun _ H' => Q .non H', rt := Q } fl s') :
    ∃ u, (fl = .next ∧ u = Value.none ∨ fl = .ret u) ∧ CE outer P w H s Q u s' := by
  cases fl with
  | next =>
    obtain ⟨σ, H1, J, q⟩ := h
    exact ⟨_, .inl ⟨rfl, rfl⟩, .non, H1, J.os, J.bare, J.base, J.hok, rfl, q⟩
  | ret u =>
    obtain ⟨v, σ, H1, J, r, q⟩ := h
    exact ⟨u, .inr rfl, v, H1, J.os, J.bare, J.base, J.hok, r, q⟩
  | brk =>
    obtain ⟨_, _, _, q⟩ := h
    cases q
  | cont =>
    obtain ⟨_, _, _, q⟩ := h
    cases q
/-- a def of the text, whatever its defaults -/
structure FunA (K : PySem.W.Frag) (x qual : Str) (st : Stmt) (f : Addr) (fd : FuncData) : Prop where
  ex : ∃ (oc : Value) (od : Option Addr) (dV kV doc pm : Value) (an : Option Addr) (cdv ct : Value) (osl : Array (Option Value)),
    fd = PySem.W.fnOf x qual (defArgs st) (defBody st) (defScope st) dV kV doc pm an cdv ct ∧ K.lookup f = some ⟨oc, od, .func fd, osl⟩ ∧ PySem.W.codeIn K cdv qual = true
theorem toA {K : PySem.W.Frag} {x qual : Str} {st : Stmt} {f : Addr} {fd : FuncData} (F : Fun K x qual st f fd) : FunA K x qual st f fd := by
  obtain ⟨oc, od, kV, doc, pm, an, cdv, ct, osl, e, lk, hcd⟩ := F.ex
  exact ⟨⟨oc, od, .none, kV, doc, pm, an, cdv, ct, osl, e, lk, hcd⟩⟩
theorem okGA {x qual : Str} {st : Stmt} {f : Addr} {fd : FuncData} {N ps : List Str} {k : Nat} {sp : Sp} (F : FunA K x qual st f fd) (S : FnScope N ps (defScope st)) (ar : ∀ vs H Q E, sp vs H Q E → vs.length = ps.length)
    (body : ∀ (cdv : Value) (A : Around) (outer : List Env) (s : Shared) (H : Hp) (vs : List V) (Q : VK) (E : XK), RoomG k (A.deeper (envOfC qual (defScope st) s.heap.objs.size f cdv)) → sp vs H Q E →
      ∃ t, PSs (cxOf CX P w K mg base N qual (defScope st) f cdv A outer s H E) (defBody st) t ∧ t { nx := fun _ H' => Q .non H', rt := Q } (start N vs) H) : FnG P w K mg base CX (k + 1) f fd ps sp := by
  obtain ⟨oc, od, dV, kV, doc, pm, an, cdv, ct, osl, rfl, lk, hcd⟩ := F.ex
  refine ⟨ar, ?_⟩
  intro A outer s H args us vs Q E room e0 hb rv hsp
  have kin : K.In s.heap := e0.mod.kin.keeps fun b o z => (e0.bs b o z).1
  have nolim : s.heap.NoLimit := e0.mod.nolimit.keeps fun b o z => (e0.bs b o z).1
  have kinds : ∀ y ∈ ps.zip us, (defScope st).names.lookup y.1 = some .local ∨ ((defScope st).names.lookup y.1 = some .cell ∧ ((cellsFrom (s.heap.objs.size + 1) (defScope st).names []).lookup y.1).isSome = true) := by
    rintro ⟨n, v⟩ hy
    exact (S.par n (List.of_mem_zip hy).1).imp _root_.id fun q => ⟨q, PySem.W.cellsFrom_some _ _ _ (.inl q)⟩
  refine codeAny_call_function room.room.depth (kin _ _ lk) rfl S.co S.gen rfl (PySem.W.codeRec_of kin hcd) (hb _ _ _ _ (wpAny_newFunctionEnv_cells S.kind kinds fun env he s1 inC => ?_))
  subst he
  obtain ⟨t, ht, hq⟩ := body cdv A outer s H vs Q E (room.in_ _) hsp
  refine ⟨nolim.keeps inC.toInCall.keep, codeAny_func (wpAny_mono (ht.run [] s1 (start N vs) H _ (inv_start S room.room.hd e0 (ar _ _ _ _ hsp) rv inC) hq) (fun fl s' z => ?_) fun e s' z => z)⟩
  obtain ⟨u, c, q⟩ := flow_end z
  rcases c with ⟨rfl, rfl⟩ | rfl
  · exact q
  · exact q
theorem okG0A {x qual : Str} {st : Stmt} {f : Addr} {fd : FuncData} {N ps : List Str} {k : Nat} {sp : Sp} (F : FunA K x qual st f fd) (S : FnScope N ps (defScope st)) (ar : ∀ vs H Q E, sp vs H Q E → vs.length = ps.length)
    (body : ∀ (cdv : Value) (A : Around) (outer : List Env) (s : Shared) (H : Hp) (vs : List V) (Q : VK) (E : XK), RoomG k (A.deeper (envOfC qual (defScope st) s.heap.objs.size f cdv)) → sp vs H Q E →
      ∃ t, PSs (cxOf CX0 P w K mg base N qual (defScope st) f cdv A outer s H E).nox (defBody st) t ∧ t { nx := fun _ H' => Q .non H', rt := Q } (start N vs) H) : FnG P w K mg base CX0 (k + 1) f fd ps sp :=
  okGA F S ar fun cdv A outer s H vs Q E hr hsp => (body cdv A outer s H vs Q E hr hsp).imp fun _ z => ⟨z.1.nox, z.2⟩
theorem okG {x qual : Str} {st : Stmt} {f : Addr} {fd : FuncData} {N ps : List Str} {k : Nat} {sp : Sp} (F : Fun K x qual st f fd) (S : FnScope N ps (defScope st)) (ar : ∀ vs H Q E, sp vs H Q E → vs.length = ps.length)
    (body : ∀ (cdv : Value) (A : Around) (outer : List Env) (s : Shared) (H : Hp) (vs : List V) (Q : VK) (E : XK), RoomG k (A.deeper (envOfC qual (defScope st) s.heap.objs.size f cdv)) → sp vs H Q E →
      ∃ t, PSs (cxOf CX P w K mg base N qual (defScope st) f cdv A outer s H E) (defBody st) t ∧ t { nx := fun _ H' => Q .non H', rt := Q } (start N vs) H) : FnG P w K mg base CX (k + 1) f fd ps sp :=
  okGA (toA F) S ar body
theorem okG0 {x qual : Str} {st : Stmt} {f : Addr} {fd : FuncData} {N ps : List Str} {k : Nat} {sp : Sp} (F : Fun K x qual st f fd) (S : FnScope N ps (defScope st)) (ar : ∀ vs H Q E, sp vs H Q E → vs.length = ps.length)
    (body : ∀ (cdv : Value) (A : Around) (outer : List Env) (s : Shared) (H : Hp) (vs : List V) (Q : VK) (E : XK), RoomG k (A.deeper (envOfC qual (defScope st) s.heap.objs.size f cdv)) → sp vs H Q E →
      ∃ t, PSs (cxOf CX0 P w K mg base N qual (defScope st) f cdv A outer s H E).nox (defBody st) t ∧ t { nx := fun _ H' => Q .non H', rt := Q } (start N vs) H) : FnG P w K mg base CX0 (k + 1) f fd ps sp :=
  okG0A (toA F) S ar body
end
section
variable {X : Cx} {CX : CXT} {k : Nat} {f : Addr} {fd : FuncData} {ps : List Str} {sp : Sp}
theorem run_G {pins : List (Addr × Obj)} {σ : L2.St} {H : Hp} {s : Shared} {Q : VK} {E : XK} {us : List Value} {vs : List V} (F : FnG X.prog X.w X.K X.mg X.base CX k f fd ps sp) (hr : RoomG k X.A) (hb : Binds X.K fd ps [])
    (out : ∀ e s', CX X.stack H s E e s' → X.xe e s') (I : Inv X pins σ H s) (r : Vals vs us) (h : sp vs H Q E) : wpAny (model X.prog X.w) X.A (call (.ref f) us) (EP X pins σ Q) X.xe s := by
  have n := (r.length).symm.trans (F.arity _ _ _ _ h)
  have b := hb s us I.kIn (by rw [List.append_nil, n])
  rw [List.append_nil] at b
  refine wpAny_call (codeAny_mono (F.go hr I.env0 b r h) ?_)
  rintro (e | fl) s' q
  · exact out e s' q
  · match fl, q with
    | .ret u, q => exact I.after q
/-- a def and its promise, by its name -/
structure Dn (P : Program) (w : World) (K : PySem.W.Frag) (mg : Str → Option Value) (base : Heap) (k : Nat) (x : Str) (ps : List Str) (sp : Sp) : Prop where
  ex : ∃ f fd, FnG P w K mg base CX0 k f fd ps sp ∧ PySem.W.keepIn K (.ref f) = true ∧ mg x = some (.ref f) ∧ Binds K fd ps []
/-- .. that may raise -/
structure Dx (P : Program) (w : World) (K : PySem.W.Frag) (mg : Str → Option Value) (base : Heap) (k : Nat) (x : Str) (ps : List Str) (sp : Sp) : Prop where
  ex : ∃ f fd, FnG P w K mg base (L2.CX P w) k f fd ps sp ∧ PySem.W.keepIn K (.ref f) = true ∧ mg x = some (.ref f) ∧ Binds K fd ps []
theorem Df.ok {P : Program} {w : World} {K : PySem.W.Frag} {mg : Str → Option Value} {base : Heap} {x : Str} {st : Stmt} (D : Df K mg x st ps)
    (h : ∀ f fd, Fun K x x st f fd → FnG P w K mg base CX0 k f fd ps sp) : Dn P w K mg base k x ps sp := by
  obtain ⟨f, fd, F, m, b⟩ := D.ex
  exact ⟨f, fd, h f fd F, F.kp, m, b⟩
theorem Df.okX {P : Program} {w : World} {K : PySem.W.Frag} {mg : Str → Option Value} {base : Heap} {x : Str} {st : Stmt} (D : Df K mg x st ps)
    (h : ∀ f fd, Fun K x x st f fd → FnG P w K mg base (L2.CX P w) k f fd ps sp) : Dx P w K mg base k x ps sp := by
  obtain ⟨f, fd, F, m, b⟩ := D.ex
  exact ⟨f, fd, h f fd F, F.kp, m, b⟩
variable {x : Str} {p pos : Pos} {e : Expr} {es : List Expr} {t : TA}
theorem pe_cD (D : Dn X.prog X.w X.K X.mg X.base k x ps sp) (hr : RoomG k X.A) (hg : Gl X x) (ha : PA X (e :: es) t) (hdb : (x == ("__debug__" : Str)) = false := by decide)
    (he : starEach (e :: es) X.env = (false, eval e X.env) :: starEach es X.env := by rfl) (hpl : (backTo pos (starEach es X.env)).any (·.1) = false := by rfl) : PE X (.Call (.Name x p) (e :: es) [] pos) (tCall sp [] E0 t) := by
  obtain ⟨f, fd, F, hk, hm, hb⟩ := D.ex
  refine ⟨fun pins s σ H Q I h => wpAny_Call_Name_kw (ld_glob I hg hm (PySem.W.callWith_K (h₀ := X.base) I.ok.mod.kin hk (thn (ha.run pos pins s σ H _ I h) fun us s1 ⟨vs, H1, I1, r, q⟩ => ⟨I1.kIn, ?_⟩) he hpl) hdb)⟩
  have q' : sp vs H1 Q E0 := by
    have z : sp (vs ++ []) H1 Q E0 := q
    rw [List.append_nil] at z
    exact z
  exact run_G F hr hb (fun _ _ z => z.elim) I1 r q'
theorem pe_cD0 (D : Dn X.prog X.w X.K X.mg X.base k x ps sp) (hr : RoomG k X.A) (hg : Gl X x) (hdb : (x == ("__debug__" : Str)) = false := by decide) : PE X (.Call (.Name x p) [] [] pos) (tCall sp [] E0 tNil) := by
  obtain ⟨f, fd, F, hk, hm, hb⟩ := D.ex
  refine ⟨fun pins s σ H Q I h => wpAny_Call_Name_kw (ld_glob I hg hm (PySem.W.callWith_K0 I.kIn hk (run_G (us := []) F hr hb (fun _ _ z => z.elim) I .nil h)) hdb)⟩
/-- a def with defaults: dvs fill up -/
structure Dfd (K : PySem.W.Frag) (mg : Str → Option Value) (x : Str) (st : Stmt) (ps : List Str) (dvs : List V) : Prop where
  ex : ∃ (f : Addr) (fd : FuncData) (ds : List Value), FunA K x x st f fd ∧ PySem.W.keepIn K (.ref f) = true ∧ mg x = some (.ref f) ∧ Binds K fd ps ds ∧ Vals dvs ds
theorem Dfd.of {K : PySem.W.Frag} {mg : Str → Option Value} {x : Str} {st : Stmt} {ps : List Str} {dvs : List V} {f T : Addr} {oc : Value} {od an : Option Addr} {osl : Array (Option Value)} {kV doc pm cdv ct : Value} {o : Obj} {its : List Value} {n m : Nat}
    (l : K.lookup f = some ⟨oc, od, .func (PySem.W.fnOf x x (defArgs st) (defBody st) (defScope st) (.ref T) kV doc pm an cdv ct), osl⟩) (c : PySem.W.codeIn K cdv x = true) (k : PySem.W.keepIn K (.ref f) = true) (mx : mg x = some (.ref f))
    (lT : K.lookup T = some o) (oT : o.data = .seq its.toArray m) (rT : Vals dvs its) (hn : n + dvs.length = ps.length)
    (h : ∀ (us : List Value), us.length = n → ∃ kk, bindArgs (PySem.W.fnOf x x (defArgs st) (defBody st) (defScope st) (.ref T) kV doc pm an cdv ct) ⟨us, []⟩ = seqItems? (.ref T) >>= kk ∧ kk (some its.toArray) = pure (ps.zip (us ++ its))) : Dfd K mg x st ps dvs := by
  refine ⟨f, _, its, ⟨⟨_, _, _, _, _, _, _, _, _, _, rfl, l, c⟩⟩, k, mx, fun s us X hlen => ?_, rT⟩
  have l1 := rT.length
  have l2 : us.length = n := by
    rw [List.length_append] at hlen
    omega
  obtain ⟨kk, e1, e2⟩ := h us l2
  refine BindsTo.of_looks fun M => ?_
  rw [e1]
  exact looks_items X lT oT (.of_pure e2)
/-- .. and its promise -/
structure DnD (P : Program) (w : World) (K : PySem.W.Frag) (mg : Str → Option Value) (base : Heap) (k : Nat) (x : Str) (ps : List Str) (dvs : List V) (sp : Sp) : Prop where
  ex : ∃ (f : Addr) (fd : FuncData) (ds : List Value), FnG P w K mg base CX0 k f fd ps sp ∧ PySem.W.keepIn K (.ref f) = true ∧ mg x = some (.ref f) ∧ Binds K fd ps ds ∧ Vals dvs ds
theorem Dfd.ok {P : Program} {w : World} {K : PySem.W.Frag} {mg : Str → Option Value} {base : Heap} {x : Str} {st : Stmt} {dvs : List V} (D : Dfd K mg x st ps dvs)
    (h : ∀ f fd, FunA K x x st f fd → FnG P w K mg base CX0 k f fd ps sp) : DnD P w K mg base k x ps dvs sp := by
  obtain ⟨f, fd, ds, F, kp, m, b, d⟩ := D.ex
  exact ⟨f, fd, ds, h f fd F, kp, m, b, d⟩
theorem run_Gd {pins : List (Addr × Obj)} {σ : L2.St} {H : Hp} {s : Shared} {Q : VK} {E : XK} {us ds : List Value} {vs dvs : List V} (F : FnG X.prog X.w X.K X.mg X.base CX k f fd ps sp) (hr : RoomG k X.A) (hb : Binds X.K fd ps ds) (hd : Vals dvs ds)
    (out : ∀ e s', CX X.stack H s E e s' → X.xe e s') (I : Inv X pins σ H s) (r : Vals vs us) (h : sp (vs ++ dvs) H Q E) : wpAny (model X.prog X.w) X.A (call (.ref f) us) (EP X pins σ Q) X.xe s := by
  have r2 : Vals (vs ++ dvs) (us ++ ds) := r.append hd
  have n : (us ++ ds).length = ps.length := by rw [← r2.length]; exact F.arity _ _ _ _ h
  refine wpAny_call (codeAny_mono (F.go hr I.env0 (hb s us I.kIn n) r2 h) ?_)
  rintro (e | fl) s' q
  · exact out e s' q
  · match fl, q with
    | .ret u, q => exact I.after q
theorem pe_cDd {dvs : List V} (D : DnD X.prog X.w X.K X.mg X.base k x ps dvs sp) (hr : RoomG k X.A) (hg : Gl X x) (ha : PA X (e :: es) t) (hdb : (x == ("__debug__" : Str)) = false := by decide)
    (he : starEach (e :: es) X.env = (false, eval e X.env) :: starEach es X.env := by rfl) (hpl : (backTo pos (starEach es X.env)).any (·.1) = false := by rfl) : PE X (.Call (.Name x p) (e :: es) [] pos) (tCall sp dvs E0 t) := by
  obtain ⟨f, fd, ds, F, hk, hm, hb, hd⟩ := D.ex
  refine ⟨fun pins s σ H Q I h => wpAny_Call_Name_kw (ld_glob I hg hm (PySem.W.callWith_K (h₀ := X.base) I.ok.mod.kin hk (thn (ha.run pos pins s σ H _ I h) fun us s1 ⟨vs, H1, I1, r, q⟩ => ⟨I1.kIn, ?_⟩) he hpl) hdb)⟩
  exact run_Gd F hr hb hd (fun _ _ z => z.elim) I1 r q
/-- a call within a try: what is raised is wished at the slots -/
theorem pe_cX {E : L2.St → XK} (D : Dx X.prog X.w X.K X.mg X.base k x ps sp) (hr : RoomG k X.A) (hg : Gl X x) (hx : ∀ σ, PassesAt (L2.CX X.prog X.w) X σ (E σ)) (ha : PA X (e :: es) t) (hdb : (x == ("__debug__" : Str)) = false := by decide)
    (he : starEach (e :: es) X.env = (false, eval e X.env) :: starEach es X.env := by rfl) (hpl : (backTo pos (starEach es X.env)).any (·.1) = false := by rfl) : PE X (.Call (.Name x p) (e :: es) [] pos) (tCallS sp E t) := by
  obtain ⟨f, fd, F, hk, hm, hb⟩ := D.ex
  exact ⟨fun pins s σ H Q I h => wpAny_Call_Name_kw (ld_glob I hg hm (PySem.W.callWith_K (h₀ := X.base) I.ok.mod.kin hk (thn (ha.run pos pins s σ H _ I h) fun us s1 ⟨vs, H1, I1, r, q⟩ =>
    ⟨I1.kIn, run_G F hr hb (fun e s' z => hx σ pins H1 s1 e s' I1 z) I1 r q⟩) he hpl) hdb)⟩
/-- repr of what is data -/
def rRepr (K : PySem.W.Frag) : List V → Hp → VK → Prop := fun xs H Q => ∃ (x : V) (d : PyData), xs = [x] ∧ Dp K H x d ∧ d.showable = true ∧ d.depth ≤ 60 ∧ d.shown.length ≤ sizeLine ∧ Q (.str d.shown) H
mutual
theorem dp_noDict {K : PySem.W.Frag} {H : Hp} : ∀ (d : PyData) (x : V), Dp K H x d → d.hasDict = false
  | .none, _, _ => rfl
  | .bool _, _, _ => rfl
  | .int _, _, _ => rfl
  | .str _, _, _ => rfl
  | .list ds, _, h => by
    cases h with
    | lst _ ha => simpa [PyData.hasDict] using dp_noDicts ds _ ha
  | .tuple ds, _, h => by
    cases h with
    | tup _ ha => simpa [PyData.hasDict] using dp_noDicts ds _ ha
  | .dict _, _, h => by cases h
theorem dp_noDicts {K : PySem.W.Frag} {H : Hp} : ∀ (ds : List PyData) (xs : List V), DpAll K H xs ds → PyData.hasDictAll ds = false
  | [], _, _ => by simp [PyData.hasDictAll]
  | d :: ds, _, h => by
    cases h with
    | cons a b => simp [PyData.hasDictAll, dp_noDict d _ a, dp_noDicts ds _ b]
end
theorem reprK {K : PySem.W.Frag} (hr : RoomG k X.A) (eK : X.K = K := by rfl) : CallR X (.builtin "repr") (rRepr K) := by
  cases eK
  intro pins s σ H xs us Q I r h
  obtain ⟨x, d, rfl, hd, hs, hdep, hz, q⟩ := h
  obtain ⟨u, rfl, rx⟩ := vals1 r
  obtain ⟨as, rd⟩ := Dp.reads I d x u hd rx
  have hu := hr.units
  have nd := dp_noDict d x hd
  cases hd with
  | non => cases rx; exact PySem.P.repr_of_none ⟨.str _, H, I.tok _, ⟨_, rfl⟩, q⟩
  | bl b => cases rx; exact PySem.P.repr_of_bool ⟨.str _, H, I.tok _, ⟨_, rfl⟩, q⟩
  | int i => obtain ⟨t, rfl⟩ := rx; exact PySem.P.repr_of_int (of_decide_eq_true (by simpa [PyData.showable] using hs)) ⟨.str _, H, I.tok _, ⟨_, rfl⟩, q⟩
  | str z => obtain ⟨t, rfl⟩ := rx; exact PySem.P.repr_of_str ⟨.str _, H, I.tok _, ⟨_, rfl⟩, q⟩ hz
  | lst hq ha =>
    cases rx
    refine repr_of_reads' rd hs (PyData.noDict_hsm nd) hr.idle (by omega) (fun _ _ z => z) (fun h' u tk hk => ⟨.str _, H, I.kept hk, ⟨_, rfl⟩, q⟩) hz
  | tup hq ha =>
    cases rx
    refine repr_of_reads' rd hs (PyData.noDict_hsm nd) hr.idle (by omega) (fun _ _ z => z) (fun h' u tk hk => ⟨.str _, H, I.kept hk, ⟨_, rfl⟩, q⟩) hz
end
end Toy
namespace Toy
open PySem PySem.Spec PyProof.Rows L2
/-- what was tracked stays, but for one object -/
def But (p : Addr) (H H' : Hp) : Prop := ∀ b o, b ≠ p → H b = some o → H' b = some o
theorem But.refl {p : Addr} {H : Hp} : But p H H := fun _ _ _ h => h
theorem But.trans {p : Addr} {H H1 H2 : Hp} (a : But p H H1) (b : But p H1 H2) : But p H H2 := fun c o n h => b c o n (a c o n h)
theorem But.free {p : Addr} {H H' : Hp} (e : But p H H') {l : Addr} (n : l ≠ p) (h : H' l = Option.none) : H l = Option.none := by
  cases q : H l with
  | none => rfl
  | some o =>
    rw [e l o n q] at h
    cases h
theorem same_but {p : Addr} {H H' : Hp} (a : Same H H') : But p H H' := fun c o _ h => a c o h
theorem But.upd {p : Addr} {H : Hp} {o : HO} : But p H (upd H p o) := fun b u n h => by rw [upd_ne n]; exact h
theorem same_new {H : Hp} {p : Addr} (h : H p = none) (o : HO) : Same H (upd H p o) := fun b u q => by rw [upd_ne (ne_of_none q h)]; exact q
theorem but_tup {p : Addr} {K : PySem.W.Frag} {H H' : Hp} {a : Addr} {xs ys : List V} (e : But p H H') (hp : H p = some (.lst ys)) (h : SqT K H a xs) : SqT K H' a xs := by
  rcases h with (h | ⟨o, h⟩) | h
  · exact .inl (.inl (e _ _ (ne_of h hp (by intro z; cases z)) h))
  · exact .inl (.inr ⟨o, e _ _ (ne_of h hp (by intro z; cases z)) h⟩)
  · exact .inr h
theorem same_tup {K : PySem.W.Frag} {H H' : Hp} {a : Addr} {xs : List V} (e : Same H H') (h : SqT K H a xs) : SqT K H' a xs := by
  rcases h with (h | ⟨o, h⟩) | h
  · exact .inl (.inl (e _ _ h))
  · exact .inl (.inr ⟨o, e _ _ h⟩)
  · exact .inr h
/-- the script stays -/
theorem but_seq {p : Addr} {K : PySem.W.Frag} {H H' : Hp} {a : Addr} {xs : List V} (e : But p H H') (n : a ≠ p) (h : SqL K H a xs) : SqL K H' a xs := by
  rcases h with (h | ⟨o, h⟩) | h
  · exact .inl (.inl (e _ _ n h))
  · exact .inl (.inr ⟨o, e _ _ n h⟩)
  · exact .inr h
theorem small {n : Nat} (h : n ≤ 1000) : n ≤ sizeLine := Nat.le_of_lt (small1000 h)
theorem log_lt {i : Int} {n : Nat} (h0 : 0 < n) (h : i.natAbs < 2 ^ n) : i.natAbs.log2 < n := PySem.Flt.log2_lt_of h0 h
theorem divp_small {i j : Int} (hj : 0 < j) (h : j < 2 ^ 8000) : CDivP i j := by
  refine ⟨hj, PyProof.noPylong_of_log2 ?_⟩
  exact Nat.lt_trans (log_lt (n := 8000) (by decide) (by omega)) (by decide)
end Toy
namespace Toy
open PySem PySem.Spec PyProof.Rows L2
theorem ifT {c : Bool} {A B : Prop} (hc : c = true) (h : A) : if c = true then A else B := by rw [if_pos hc]; exact h
theorem ifF {c : Bool} {A B : Prop} (hc : c = false) (h : B) : if c = true then A else B := by rw [hc]; exact iteF h
theorem pj {j : Int} (h : decide ((0 : Int) < j) = true := by decide) : 0 < j := of_decide_eq_true h
theorem sz {xs : List V} (h : Nat.ble xs.length 1000 = true := by rfl) : xs.length ≤ sizeLine := small (Nat.le_of_ble_eq_true h)
theorem but_same {p : Addr} {H H1 H2 : Hp} (n : H p = none) (a : Same H H1) (b : But p H1 H2) : Same H H2 := fun c o h => b c o (ne_of_none h n) (a c o h)
/-- two ways of a value meet -/
theorem ifE {ta tb : TE} {σ : L2.St} {H : Hp} {Q : VK} {b : Bool} (R : V → Hp → Prop) (h : ∀ v H', R v H' → Q v H') (h1 : b = true → ∀ Q' : VK, (∀ v H', R v H' → Q' v H') → ta σ H Q') (h2 : b = false → ∀ Q' : VK, (∀ v H', R v H' → Q' v H') → tb σ H Q') :
    if b = true then ta σ H Q else tb σ H Q := by
  cases b with
  | true => exact iteT (h1 rfl Q h)
  | false => exact iteF (h2 rfl Q h)
theorem mulx {i j : Int} (a b : Nat) (ha : i.natAbs < 2 ^ a) (hb : j.natAbs < 2 ^ b) (h : a + b ≤ 134217728 := by decide) : CMulX i j := mulx_ok ha hb h
end Toy
namespace Toy
open PySem PySem.Spec PyProof.Rows L2
theorem qi {Q : VK} {H : Hp} {a b : Int} (q : Q (.int a) H) (e : a = b) : Q (.int b) H := e ▸ q
end Toy
namespace Toy
open PySem PySem.Spec PyProof.Rows L2
/-- the written part by its letter -/
theorem kk {α : Sort _} {P : α → Prop} {F : PySem.W.Frag → α} {K0 K : PySem.W.Frag} (h : P (F K0)) (e : K0 = K := by rfl) : P (F K) := e ▸ h
def rLen (K : PySem.W.Frag) : List V → Hp → VK → Prop := fun xs H Q => ∃ p ys, xs = [.ref p] ∧ (SqL K H p ys ∨ SqT K H p ys) ∧ Q (.int ys.length) H
theorem lenK {X : Cx} {K : PySem.W.Frag} (e : X.K = K := by rfl) : CallR X (.builtin "len") (rLen K) := by cases e; exact call_len_seq
def rLstOf (K : PySem.W.Frag) : List V → Hp → VK → Prop := fun xs H Q => ∃ p ys, xs = [.ref p] ∧ (SqL K H p ys ∨ SqT K H p ys) ∧ ∀ l, H l = none → Q (.ref l) (upd H l (.lst ys))
theorem lstOfK {X : Cx} {K : PySem.W.Frag} (e : X.K = K := by rfl) : CallR X (.type "list") (rLstOf K) := by cases e; exact call_list_of
def rTupOf (K : PySem.W.Frag) : List V → Hp → VK → Prop := fun xs H Q => ∃ p ys, xs = [.ref p] ∧ ((SqL K H p ys ∧ ∀ l, H l = none → Q (.ref l) (upd H l (.tup ys))) ∨ (SqT K H p ys ∧ Q (.ref p) H))
theorem tupOfK {X : Cx} {K : PySem.W.Frag} (e : X.K = K := by rfl) : CallR X (.type "tuple") (rTupOf K) := by cases e; exact call_tuple_of
theorem dec_ne {α : Type} [DecidableEq α] {a b : α} (h : a = b) : (!decide (a = b)) = false := by rw [decide_eq_true h] <;> rfl
end Toy
namespace Toy
open PySem PySem.Spec PyProof.Rows L2
/-- a tuple of the written part; a tuple that never changes -/
def KTup (K : PySem.W.Frag) (a : Addr) (xs : List V) : Prop := ∃ (o : Obj) (its : Array Value) (n : Nat), K.lookup a = some o ∧ o.cls = .type "tuple" ∧ o.data = .seq its n ∧ its.size ≤ sizeLine ∧ Vals xs its.toList
def TupAt (K : PySem.W.Frag) (H : Hp) (a : Addr) (xs : List V) : Prop := H a = some (.tup xs) ∨ KTup K a xs
theorem TupAt.sq {K : PySem.W.Frag} {H : Hp} {a : Addr} {xs : List V} (h : TupAt K H a xs) : SqT K H a xs := by
  rcases h with h | h
  · exact SqT.of h
  · exact .inr h
theorem TupAt.ty {K : PySem.W.Frag} {H : Hp} {a : Addr} {xs : List V} (h : TupAt K H a xs) : TyX K H (.ref a) (.type "tuple") := by
  rcases h with h | ⟨o, its, n, h1, h2, _⟩
  · exact .base (.tup h)
  · exact .kTuple h1 h2
theorem TupAt.same {K : PySem.W.Frag} {H H' : Hp} {a : Addr} {xs : List V} (e : Same H H') (h : TupAt K H a xs) : TupAt K H' a xs := h.imp (e _ _) id
theorem TupAt.but {K : PySem.W.Frag} {H H' : Hp} {a p : Addr} {xs ys : List V} (e : But p H H') (hp : H p = some (.lst ys)) (h : TupAt K H a xs) : TupAt K H' a xs := h.imp (fun h => e _ _ (ne_of h hp (by intro z; cases z)) h) id
end Toy
namespace Toy
open PySem PySem.Spec PyProof.Rows L2
theorem ints_dp {K : PySem.W.Frag} {H : Hp} : ∀ ns : List Int, DpAll K H (ns.map V.int) (ns.map PyData.int)
  | [] => .nil
  | n :: r => .cons (.int n) (ints_dp r)
theorem ints_sh (ns : List Int) : SeqAt.shaped (.list (ns.map PyData.int)) = true := PySem.W.ke_shaped_ints ns
theorem ints_refl (ns : List Int) : PyData.eqv (.list (ns.map PyData.int)) (.list (ns.map PyData.int)) = true := SeqAt.eqv_refl _ (SeqAt.canLay_of_shaped (ints_sh ns))
theorem lst_dp {K : PySem.W.Frag} {H : Hp} {a : Addr} {ns : List Int} (h : SqL K H a (ns.map V.int)) : Dp K H (.ref a) (.list (ns.map PyData.int)) := .lst h (ints_dp ns)
theorem tupI_dp {K : PySem.W.Frag} {H : Hp} {a : Addr} {ns : List Int} (h : SqT K H a (ns.map V.int)) : Dp K H (.ref a) (.tuple (ns.map PyData.int)) := .tup h (ints_dp ns)
theorem tupI_sh (ns : List Int) : SeqAt.shaped (.tuple (ns.map PyData.int)) = true := ints_sh ns
theorem tupI_refl (ns : List Int) : PyData.eqv (.tuple (ns.map PyData.int)) (.tuple (ns.map PyData.int)) = true := SeqAt.eqv_refl _ (SeqAt.canLay_of_shaped (tupI_sh ns))
theorem cut_map (us : List Int) (lo hi : Option Int) : ∃ ws : List Int, cutV (us.map V.int) lo hi = ws.map V.int ∧ ws.length ≤ us.length ∧ ∀ x ∈ ws, x ∈ us := by
  refine ⟨(us.drop (HT.sIx (us.map V.int).length 0 lo)).take (HT.sIx (us.map V.int).length (us.map V.int).length hi - HT.sIx (us.map V.int).length 0 lo), ?_, ?_, fun x hx => List.mem_of_mem_drop (List.mem_of_mem_take hx)⟩
  · unfold cutV; rw [List.map_take, List.map_drop]
  · rw [List.length_take, List.length_drop]; omega
theorem at_map {us : List Int} {i : Nat} {y : V} (h : (us.map V.int)[i]? = some y) : ∃ x : Int, y = .int x ∧ us[i]? = some x := by
  rw [List.getElem?_map] at h
  cases e : us[i]? with
  | none => rw [e] at h; cases h
  | some x => rw [e] at h; exact ⟨x, (Option.some.inj h).symm, rfl⟩
end Toy
namespace Toy
open PySem PySem.Spec PyProof.Rows L2
/-- the heap in which the script alone stands, unless the text's own part holds it -/
def scriptH (K : PySem.W.Frag) (a : Addr) (o : Obj) (ns : List Int) : Hp := fun c => if (K.lookup a).isNone = true ∧ c = a then some (.frz o (.lst (ns.map V.int))) else none
theorem scriptH_none {K : PySem.W.Frag} {a b : Addr} {o : Obj} {ns : List Int} : scriptH K a o ns b = none ∨ (b = a ∧ K.lookup a = none ∧ scriptH K a o ns b = some (.frz o (.lst (ns.map V.int)))) := by
  unfold scriptH
  by_cases c : (K.lookup a).isNone = true ∧ b = a
  · exact .inr ⟨c.2, Option.isNone_iff_eq_none.mp c.1, if_pos c⟩
  · exact .inl (if_neg c)
theorem law_G {P : Program} {w : World} {K : PySem.W.Frag} {mg mb : Str → Option Value} {k : Nat} {fa a : Addr} {fd : FuncData} {x : Str} {sp : Sp} {s : Shared} {vs : List Value} {ns : List Int}
    (KX : K.In s.heap) (hns : s.heap.Ns mainGlobals mg) (hb : s.heap.Ns builtinsNs mb) (hbb : ∀ x : Str, x ≠ "__name__" → mb x = bootBuiltins x) (hlim : s.heap.NoLimit) (hg : s.gens = #[])
    (ha : s.heap.get? a = some { cls := .type "list", data := .seq vs.toArray }) (hi : IntsAre vs ns) (hl : ns.length ≤ sizeLine) (hr : Room k PySem.callerA)
    (F : ∀ base : Heap, K.In base → base.Ns mainGlobals mg → FnG P w K mg base CX0 k fa fd [x] sp) (hbind : ∀ (s : Shared) (u : Value), BindsTo s fd ⟨[u], []⟩ [(x, u)])
    (hsp : ∀ H : Hp, SqL K H a (ns.map V.int) → sp [.ref a] H (fun v _ => v = .bl true) fun _ _ _ => False) :
    codeAny (model P w) PySem.callerA (.call (.ref fa) ⟨[.ref a], []⟩) (fun r s' => r = .ok (.ret (.bool true)) ∧ OldK s.heap s'.heap ∧ s'.os = s.os ∧ AllBare s'.gens) s := by
  let H : Hp := scriptH K a { cls := .type "list", data := .seq vs.toArray } ns
  have hH : ∀ b, H b = none ∨ (b = a ∧ K.lookup a = none ∧ H b = some (.frz { cls := .type "list", data := .seq vs.toArray } (.lst (ns.map V.int)))) := fun b => scriptH_none
  have rv := vals_ints hi
  have hok : HOk P w H s.heap := by
    intro b u e
    rcases hH b with z | ⟨rfl, _, z⟩
    · rw [z] at e; cases e
    · rw [z] at e
      cases e
      exact ⟨ha, by rw [List.length_map]; exact hl, vs, _, rv, ha⟩
  have hS : SqL K H a (ns.map V.int) := by
    cases q : K.lookup a with
    | none => exact .inl (.inr ⟨_, show scriptH K a _ ns a = _ from if_pos ⟨by rw [q] <;> rfl, rfl⟩⟩)
    | some o =>
      have e := KX a o q
      rw [ha] at e
      cases e
      exact .inr ⟨_, vs.toArray, _, q, rfl, rfl, rfl, by rw [List.size_toArray, hi.length]; exact hl, by simpa using rv⟩
  -- what is no list is not the script
  have notA : ∀ {b : Addr} {o : Obj} {es : Array DictEntry} {ep : Nat}, s.heap.get? b = some o → o.data = .dict es ep → H b = none := by
    intro b o es ep e d
    rcases hH b with z | ⟨rfl, _, _⟩
    · exact z
    · rw [ha] at e
      cases e
      cases (show Data.seq vs.toArray _ = Data.dict es ep from d)
  have ns' : ∀ {b : Addr} {m : Str → Option Value}, s.heap.Ns b m → (hidT s.heap H).Ns b m := by
    rintro b m ⟨o, es, ep, e, d, r⟩
    exact ⟨o, es, ep, hidT_get e (notA e d), d, r⟩
  have kin' : K.In (hidT s.heap H) := by
    intro b o e
    refine hidT_get (KX b o e) ?_
    rcases hH b with z | ⟨rfl, q, _⟩
    · exact z
    · rw [q] at e; cases e
  have md : Mod K mg (hidT s.heap H) := ⟨kin', ns' hns, ⟨mb, ns' hb, hbb⟩, hlim.imp fun _ z => ⟨ns' z.1, z.2⟩⟩
  have e0 : Env0 P w K mg (hidT s.heap H) PySem.callerA [] s H := ⟨rfl, md, fun _ _ z => of_hidT z, Nat.le_of_eq (hidT_size _ _), trivial, (by intro b z; cases z), hok, .of_eq hg⟩
  refine codeAny_mono ((F _ kin' (ns' hns)).go (us := [.ref a]) (vs := [.ref a]) ⟨hr, rfl⟩ e0 (hbind s (.ref a)) (.cons rfl .nil) (hsp H hS)) ?_
  rintro (e | fl) s' q
  · exact q.elim
  match fl, q with
  | .ret u, ⟨v, H', os, bare, un, ok', r', q⟩ =>
    have q' : v = .bl true := q
    subst q'
    obtain rfl : u = Value.bool true := r'
    refine ⟨rfl, OldK.of_keep fun b o e => ?_, os, bare⟩
    rcases hH b with z | ⟨_, _, z⟩
    · exact un.keep b o e z (by intro y; cases y) (by intro y; cases y)
    · have z1 := (hok b _ z).1
      have z2 := (ok' b _ (un.frzs b _ _ z)).1
      rw [e] at z1
      cases z1
      exact z2
theorem walk_G {l : PySem.W.OpenLaw} {n k : Nat} {q : Program} {loose : List Str} {XP : (Str → Option Value) → Heap → Prop} {YP : World → Heap → Prop} {d : DefRec} {K : Params → PySem.W.Frag} {sp : PySem.W.Frag → Sp} {x : Str}
    (hn : l.most = some n) (hn2 : n ≤ sizeLine) (hdf : d.params.defaults = []) (hr : Room k PySem.callerA) (hY : ∀ (w : World) (h : Heap), YP w h → (K w.params).In h)
    (F : ∀ (w : World) (mg : Str → Option Value) (fa : Addr) (h : Heap), (K w.params).In h → h.Ns mainGlobals mg → mg d.name = some (.ref fa) →
      ∃ fd : FuncData, (∀ (s : Shared) (u : Value), BindsTo s fd ⟨[u], []⟩ [(x, u)]) ∧ ∀ base : Heap, (K w.params).In base → base.Ns mainGlobals mg → FnG l.prog w (K w.params) mg base CX0 k fa fd [x] (sp (K w.params)))
    (hsp : ∀ (K : PySem.W.Frag) (H : Hp) (a : Addr) (ns : List Int), ns.length ≤ n → SqL K H a (ns.map V.int) → sp K [.ref a] H (fun v _ => v = .bl true) fun _ _ _ => False) :
    PySem.W.WalkO q loose XP YP l.row.toRowW d [] (fun f vs => PySem.call f vs) :=
  Att.attach_call hn hdf fun w s0 s1 mg mb fa o pm cd doc a vs ns G Y ho hd hcd hmg hobj hints hlen hg => by
    have KX := hY w _ Y
    obtain ⟨fd, hbd, hF⟩ := F w mg fa _ KX G.T.g hmg
    exact law_G KX G.T.g G.T.b G.T.builtins G.T.nolimit hg hobj hints (Nat.le_trans hlen hn2) hr hF hbd fun H hS => hsp _ H a ns hlen hS
end Toy
namespace Toy
open PySem PySem.Spec PyProof.Rows L2
/-! ### how long a shown datum is -/
mutual
def cst : PyData → Nat
  | .none => 5
  | .bool _ => 5
  | .int _ => 1921
  | .str x => (reprText x).length
  | .list xs => csts xs + 4
  | .tuple xs => csts xs + 4
  | .dict _ => 0
def csts : List PyData → Nat
  | [] => 0
  | x :: xs => cst x + 4 + csts xs
end
theorem tupT_len (ts : List Str) : (tupleText ts).length ≤ piled ts + 4 := by
  unfold tupleText
  rw [strLen_append, strLen_append]
  have e1 : ((("(" : String) : Str)).length = 1 := rfl
  have e3 : (((if ts.length == 1 then ",)" else ")" : String) : Str)).length ≤ 2 := by split <;> decide +kernel
  by_cases h : ts = []
  · subst h; decide +kernel
  · have := join_length_add ts h; omega
theorem txtFrom_len : ∀ (ts : List Str) (k : Nat) (acc : Str), (textFrom k acc ts).length ≤ acc.length + piled ts
  | [], k, acc => Nat.le_add_right _ _
  | t :: r, k, acc => by
    have h := txtFrom_len r (k + 1) (acc ++ (if k > 0 then ", " else "" : String) ++ t)
    have e : (acc ++ (if k > 0 then ", " else "" : String) ++ t).length = acc.length + (if k > 0 then 2 else 0) + t.length := by
      rw [strLen_append, strLen_append]
      split <;> rfl
    rw [e] at h
    rw [piled_cons]
    have h2 : (textFrom k acc (t :: r)).length = (textFrom (k + 1) (acc ++ (if k > 0 then ", " else "" : String) ++ t) r).length := rfl
    rw [h2]
    have e2 : (if k > 0 then 2 else 0) ≤ 2 := by split <;> omega
    omega
theorem lstT_len (ts : List Str) : (listText ts).length ≤ piled ts + 4 := by
  unfold listText
  rw [strLen_append]
  have h := txtFrom_len ts 0 "["
  have e1 : ((("[" : String) : Str)).length = 1 := rfl
  have e2 : ((("]" : String) : Str)).length = 1 := rfl
  omega
mutual
theorem shown_le : ∀ d : PyData, d.showable = true → d.hasDict = false → d.shown.length ≤ cst d
  | .none, _, _ => by show (("None" : String) : Str).length ≤ 5; decide +kernel
  | .bool b, _, _ => by cases b <;> (show _ ≤ 5; decide +kernel)
  | .int i, h, _ => PyProof.Rows.int_text_len_1921 (of_decide_eq_true (by simpa [PyData.showable] using h))
  | .str x, _, _ => Nat.le_refl _
  | .list ds, h, g => by
    have h1 := showns_le ds (by simpa [PyData.showable] using h) (by simpa [PyData.hasDict] using g)
    have h2 := lstT_len (PyData.shownAll ds)
    show (listText (PyData.shownAll ds)).length ≤ csts ds + 4
    omega
  | .tuple ds, h, g => by
    have h1 := showns_le ds (by simpa [PyData.showable] using h) (by simpa [PyData.hasDict] using g)
    have h2 := tupT_len (PyData.shownAll ds)
    show (tupleText (PyData.shownAll ds)).length ≤ csts ds + 4
    omega
  | .dict _, _, g => by simp [PyData.hasDict] at g
theorem showns_le : ∀ ds : List PyData, PyData.showableAll ds = true → PyData.hasDictAll ds = false → piled (PyData.shownAll ds) ≤ csts ds
  | [], _, _ => Nat.le_refl _
  | d :: ds, h, g => by
    have h1 := shown_le d (by simp [PyData.showableAll] at h; exact h.1) (by simp [PyData.hasDictAll] at g; exact g.1)
    have h2 := showns_le ds (by simp [PyData.showableAll] at h; exact h.2) (by simp [PyData.hasDictAll] at g; exact g.2)
    show piled (d.shown :: PyData.shownAll ds) ≤ _
    rw [piled_cons]
    show _ ≤ cst d + 4 + csts ds
    omega
end
theorem shown_sz {d : PyData} (h : d.showable = true) (g : d.hasDict = false) (c : cst d ≤ 10000000) : d.shown.length ≤ sizeLine :=
  Nat.le_trans (shown_le d h g) (Nat.le_trans c (by decide))
end Toy
namespace Toy
open PySem PySem.Spec PyProof.Rows L2
/-- a list of ints grown by a part of another one -/
theorem ext_cut {L z : Addr} {ws es : List Int} {lo hi : Option Int} {H : Hp} {R : VK} (hL : H L = some (.lst (ws.map V.int))) (hz : H z = some (.lst (cutV (es.map V.int) lo hi))) (hs : ws.length + es.length ≤ 1000)
    (q : ∀ us : List Int, us.length ≤ es.length → (∀ x ∈ us, x ∈ es) → R .non (upd H L (.lst ((ws ++ us).map V.int)))) : rExtend (.ref L) [.ref z] H R := by
  obtain ⟨us, e, h1, h2⟩ := cut_map es lo hi
  rw [e] at hz
  refine ⟨L, z, _, _, rfl, rfl, hL, hz, small (by rw [List.length_map, List.length_map]; omega), ?_⟩
  have := q us h1 h2
  rw [List.map_append] at this
  exact this
theorem rep_len {n : Nat} : ((List.replicate n true).map V.bl).length = n := by rw [List.length_map, List.length_replicate]
theorem rep_snoc {n : Nat} : (List.replicate n true).map V.bl ++ [V.bl true] = (List.replicate (n + 1) true).map V.bl := by rw [List.replicate_succ', List.map_append] <;> rfl
theorem rep_all (n : Nat) : (List.replicate n true).all id = true := by rw [List.all_eq_true]; intro x hx; rw [List.mem_replicate] at hx; exact hx.2
theorem ixn {n j : Nat} (hj : j < n) : ixN n (j : Int) = some j := by
  unfold ixN
  rw [if_pos (by omega), if_pos (by omega)]
  exact congrArg some (Int.toNat_natCast j)
theorem dec_self (a : V) : decide (a = a) = true := decide_eq_true rfl
end Toy
namespace Toy
open PySem L2
def top (i : Nat) : Stmt := PySem.Challenge.pw_joinedasks_k82_addresses_by_steps.main.body.getD i (.Pass ⟨0, 0, 0, 0⟩)
abbrev s_is_whole : Stmt := top 5
theorem sc_is_whole : FnScope ["thing"] ["thing"] (defScope s_is_whole) := ⟨rfl, rfl, rfl, by decide +kernel, rfl, by decide +kernel, by decide +kernel⟩
abbrev s_is_within : Stmt := top 6
theorem sc_is_within : FnScope ["thing", "least", "most"] ["thing", "least", "most"] (defScope s_is_within) := ⟨rfl, rfl, rfl, by decide +kernel, rfl, by decide +kernel, by decide +kernel⟩
abbrev s_want_within : Stmt := top 7
theorem sc_want_within : FnScope ["thing", "least", "most"] ["thing", "least", "most"] (defScope s_want_within) := ⟨rfl, rfl, rfl, by decide +kernel, rfl, by decide +kernel, by decide +kernel⟩
abbrev s_want_from : Stmt := top 8
theorem sc_want_from : FnScope ["thing", "least"] ["thing", "least"] (defScope s_want_from) := ⟨rfl, rfl, rfl, by decide +kernel, rfl, by decide +kernel, by decide +kernel⟩
abbrev s_want_net : Stmt := top 9
theorem sc_want_net : FnScope ["k", "deepest"] ["k", "deepest"] (defScope s_want_net) := ⟨rfl, rfl, rfl, by decide +kernel, rfl, by decide +kernel, by decide +kernel⟩
abbrev s_piece_of : Stmt := top 12
theorem sc_piece_of : FnScope ["k", "address"] ["k", "address"] (defScope s_piece_of) := ⟨rfl, rfl, rfl, by decide +kernel, rfl, by decide +kernel, by decide +kernel⟩
abbrev s_folded_pieces : Stmt := top 13
theorem sc_folded_pieces : FnScope ["k", "address", "found"] ["k", "address"] (defScope s_folded_pieces) := ⟨rfl, rfl, rfl, by decide +kernel, rfl, by decide +kernel, by decide +kernel⟩
abbrev s_side_at : Stmt := top 14
theorem sc_side_at : FnScope ["k", "address"] ["k", "address"] (defScope s_side_at) := ⟨rfl, rfl, rfl, by decide +kernel, rfl, by decide +kernel, by decide +kernel⟩
abbrev s_lying : Stmt := top 15
theorem sc_lying : FnScope ["k", "begin", "step", "many", "found", "turn"] ["k", "begin", "step", "many"] (defScope s_lying) := ⟨rfl, rfl, rfl, by decide +kernel, rfl, by decide +kernel, by decide +kernel⟩
abbrev s__law_cell : Stmt := top 17
theorem sc__law_cell : FnScope ["_law_script", "_law_k"] ["_law_script", "_law_k"] (defScope s__law_cell) := ⟨rfl, rfl, rfl, by decide +kernel, rfl, by decide +kernel, by decide +kernel⟩
abbrev s__law_pot : Stmt := top 18
theorem sc__law_pot : FnScope ["_law_script", "_law_k", "_law_cell_here", "_law_mixed"] ["_law_script", "_law_k"] (defScope s__law_pot) := ⟨rfl, rfl, rfl, by decide +kernel, rfl, by decide +kernel, by decide +kernel⟩
abbrev s__law_draw : Stmt := top 19
theorem sc__law_draw : FnScope ["_law_pot_here", "_law_many", "_law_digit"] ["_law_pot_here", "_law_many"] (defScope s__law_draw) := ⟨rfl, rfl, rfl, by decide +kernel, rfl, by decide +kernel, by decide +kernel⟩
abbrev s__law_far : Stmt := top 20
theorem sc__law_far : FnScope ["_law_pot_here"] ["_law_pot_here"] (defScope s__law_far) := ⟨rfl, rfl, rfl, by decide +kernel, rfl, by decide +kernel, by decide +kernel⟩
abbrev s__law_side : Stmt := top 21
theorem sc__law_side : FnScope ["_law_k", "_law_address", "_law_found", "_law_at"] ["_law_k", "_law_address"] (defScope s__law_side) := ⟨rfl, rfl, rfl, by decide +kernel, rfl, by decide +kernel, by decide +kernel⟩
abbrev s__law_counted : Stmt := top 22
theorem sc__law_counted : FnScope ["_law_k", "_law_begin", "_law_step", "_law_many", "_law_found", "_law_turn"] ["_law_k", "_law_begin", "_law_step", "_law_many"] (defScope s__law_counted) := ⟨rfl, rfl, rfl, by decide +kernel, rfl, by decide +kernel, by decide +kernel⟩
abbrev s_law : Stmt := top 23
theorem sc_law : FnScope ["_law_script", "_law_k", "_law_pot_here", "_law_depth", "_law_many", "_law_begin", "_law_step", "_law_power", "_law_first", "_law_due"] ["_law_script"] (defScope s_law) := ⟨rfl, rfl, rfl, by decide +kernel, rfl, by decide +kernel, by decide +kernel⟩
structure Bl (K : PySem.W.Frag) (mg : Str → Option Value) : Prop where
  bool_ : mg "bool" = none
  divmod_ : mg "divmod" = none
  int_ : mg "int" = none
  isinstance_ : mg "isinstance" = none
  len_ : mg "len" = none
  max_ : mg "max" = none
  min_ : mg "min" = none
  range_ : mg "range" = none
  tuple_ : mg "tuple" = none
  MOST_LAID_ : ∃ t, mg "MOST_LAID" = some (.int 200 t)

/-! ### loops over any iterable: the forms one uses -/
theorem lc_it {I : It} {n : Nat} {g : TG} {tt : TT} {te : TE} {vs : List Nat} {σ : L2.St} {H1 : Hp} {D : Addr} {Qd : Hp → Prop} (Pv : Nat → Hp → Prop) (h0 : Pv 0 (upd H1 D (.lst [])))
    (hgo : ∀ i H, i < n → Pv i H → I.go i H) (hst : ∀ H, Pv n H → I.stop n H)
    (hs : ∀ i x H H', i < n → Pv i H → I.yld i H x H' → g x (wipe σ vs) H' fun σ2 H2 => wipe σ2 vs = wipe σ vs ∧ tt σ2 H2 fun b H3 =>
      if b = true then te σ2 H3 fun y H4 => ∃ acc, H4 D = some (.lst acc) ∧ acc.length < sizeLine ∧ Pv (i + 1) (upd H4 D (.lst (acc ++ [y]))) else Pv (i + 1) H3) (hd : ∀ H, Pv n H → Qd H) :
    ∃ W : Nat → Nat → Hp → Prop, (∃ m, W 0 m (upd H1 D (.lst []))) ∧ ∀ i m H, W i m H →
      (I.stop i H ∧ Qd H) ∨ (I.go i H ∧ ∃ Nx : Hp → Prop, (∀ H', Nx H' → ∃ m', m' < m ∧ W (i + 1) m' H') ∧ ∀ x H', I.yld i H x H' → g x (wipe σ vs) H' fun σ2 H2 => wipe σ2 vs = wipe σ vs ∧ tt σ2 H2 fun b H3 =>
        if b = true then te σ2 H3 fun y H4 => ∃ acc, H4 D = some (.lst acc) ∧ acc.length < sizeLine ∧ Nx (upd H4 D (.lst (acc ++ [y]))) else Nx H3) := by
  refine ⟨fun i m H => m = n - i ∧ i ≤ n ∧ Pv i H, ⟨n, by simp, Nat.zero_le _, h0⟩, ?_⟩
  rintro i m H ⟨rfl, hi, p⟩
  by_cases hlt : i < n
  · exact .inr ⟨hgo i H hlt p, Pv (i + 1), fun H' p' => ⟨n - (i + 1), by omega, rfl, hlt, p'⟩, fun x H' y => hs i x H H' hlt p y⟩
  · have e : i = n := by omega
    subst e
    exact .inl ⟨hst H p, hd H p⟩
theorem for_it {I : It} {n : Nat} {g : TG} {tb : TS} {D : Ends} {σ : L2.St} {H : Hp} (Pv : Nat → L2.St → Hp → Prop) (h0 : Pv 0 σ H)
    (hgo : ∀ i σ H, i < n → Pv i σ H → I.go i H) (hst : ∀ σ H, Pv n σ H → I.stop n H)
    (hs : ∀ i x σ H H', i < n → Pv i σ H → I.yld i H x H' → g x σ H' fun σ2 H2 => tb { D with nx := Pv (i + 1), ct := Pv (i + 1), bk := D.nx } σ2 H2) (hd : ∀ σ H, Pv n σ H → D.nx σ H) :
    ∃ W : Nat → Nat → L2.St → Hp → Prop, (∃ m, W 0 m σ H) ∧ ∀ i m σ H, W i m σ H →
      (I.stop i H ∧ D.nx σ H) ∨ (I.go i H ∧ ∃ N : L2.St → Hp → Prop, (∀ σ' H', N σ' H' → ∃ m', m' < m ∧ W (i + 1) m' σ' H') ∧ ∀ x H', I.yld i H x H' → g x σ H' fun σ2 H2 => tb { D with nx := N, ct := N, bk := D.nx } σ2 H2) := by
  refine ⟨fun i m σ H => m = n - i ∧ i ≤ n ∧ Pv i σ H, ⟨n, by simp, Nat.zero_le _, h0⟩, ?_⟩
  rintro i m σ H ⟨rfl, hi, p⟩
  by_cases hlt : i < n
  · exact .inr ⟨hgo i σ H hlt p, Pv (i + 1), fun σ' H' p' => ⟨n - (i + 1), by omega, rfl, hlt, p'⟩, fun x H' y => hs i x σ H H' hlt p y⟩
  · have e : i = n := by omega
    subst e
    exact .inl ⟨hst σ H p, hd σ H p⟩
/-- [.. for i, x in enumerate(xs)] -/
theorem lc_enum {K : PySem.W.Frag} {a : Addr} {xs : List V} {g : TG} {tt : TT} {te : TE} {vs : List Nat} {σ : L2.St} {H1 : Hp} {D : Addr} {Qd : Hp → Prop} (Pv : Nat → Hp → Prop) (h0 : Pv 0 (upd H1 D (.lst []))) (hl : ∀ i H, i ≤ xs.length → Pv i H → SqL K H a xs)
    (hs : ∀ (i : Nat) x (T : Addr) H, xs[i]? = some x → Pv i H → H T = none → g (.ref T) (wipe σ vs) (upd H T (.tup [.int i, x])) fun σ2 H2 => wipe σ2 vs = wipe σ vs ∧ tt σ2 H2 fun b H3 =>
      if b = true then te σ2 H3 fun y H4 => ∃ acc, H4 D = some (.lst acc) ∧ acc.length < sizeLine ∧ Pv (i + 1) (upd H4 D (.lst (acc ++ [y]))) else Pv (i + 1) H3) (hd : ∀ H, Pv xs.length H → Qd H) :
    ∃ W : Nat → Nat → Hp → Prop, (∃ m, W 0 m (upd H1 D (.lst []))) ∧ ∀ i m H, W i m H →
      ((Ite K a).stop i H ∧ Qd H) ∨ ((Ite K a).go i H ∧ ∃ Nx : Hp → Prop, (∀ H', Nx H' → ∃ m', m' < m ∧ W (i + 1) m' H') ∧ ∀ x H', (Ite K a).yld i H x H' → g x (wipe σ vs) H' fun σ2 H2 => wipe σ2 vs = wipe σ vs ∧ tt σ2 H2 fun b H3 =>
        if b = true then te σ2 H3 fun y H4 => ∃ acc, H4 D = some (.lst acc) ∧ acc.length < sizeLine ∧ Nx (upd H4 D (.lst (acc ++ [y]))) else Nx H3) := by
  refine lc_it (I := Ite K a) (n := xs.length) Pv h0 (fun i H hi p => ⟨xs, xs[i], hl i H (Nat.le_of_lt hi) p, List.getElem?_eq_getElem hi⟩) (fun H p => ⟨xs, hl _ H (Nat.le_refl _) p, Nat.le_refl _⟩) ?_ hd
  rintro i x H H' hi p ⟨T, z, rfl, hT, rfl, hz⟩
  exact hs i z T H (hz xs (hl i H (Nat.le_of_lt hi) p)) p hT
theorem for_enum' {K : PySem.W.Frag} {a : Addr} {xs : List V} {g : TG} {tb : TS} {D : Ends} {σ : L2.St} {H : Hp} (Pv : Nat → L2.St → Hp → Prop) (h0 : Pv 0 σ H) (hl : ∀ i σ H, i ≤ xs.length → Pv i σ H → SqL K H a xs)
    (hs : ∀ (i : Nat) x (T : Addr) σ H, xs[i]? = some x → Pv i σ H → H T = none → g (.ref T) σ (upd H T (.tup [.int i, x])) fun σ2 H2 => tb { D with nx := Pv (i + 1), ct := Pv (i + 1), bk := D.nx } σ2 H2) (hd : ∀ σ H, Pv xs.length σ H → D.nx σ H) :
    ∃ W : Nat → Nat → L2.St → Hp → Prop, (∃ m, W 0 m σ H) ∧ ∀ i m σ H, W i m σ H →
      ((Ite K a).stop i H ∧ D.nx σ H) ∨ ((Ite K a).go i H ∧ ∃ N : L2.St → Hp → Prop, (∀ σ' H', N σ' H' → ∃ m', m' < m ∧ W (i + 1) m' σ' H') ∧ ∀ x H', (Ite K a).yld i H x H' → g x σ H' fun σ2 H2 => tb { D with nx := N, ct := N, bk := D.nx } σ2 H2) := by
  refine for_it (I := Ite K a) (n := xs.length) Pv h0 (fun i σ H hi p => ⟨xs, xs[i], hl i σ H (Nat.le_of_lt hi) p, List.getElem?_eq_getElem hi⟩) (fun σ H p => ⟨xs, hl _ σ H (Nat.le_refl _) p, Nat.le_refl _⟩) ?_ hd
  rintro i x σ H H' hi p ⟨T, z, rfl, hT, rfl, hz⟩
  exact hs i z T σ H (hz xs (hl i σ H (Nat.le_of_lt hi) p)) p hT
/-- xs[i] of a list, as a value -/
theorem get_listI {X : Cx} : PGet X (rIxL X.K) := by
  intro pins s σ H o i ov iv Q I ro ri h
  obtain ⟨p, xs, k, z, rfl, rfl, hq, he, q⟩ := h
  cases ro
  obtain ⟨t, rfl⟩ := ri
  obtain ⟨its, r, pl, hz⟩ := I.list hq
  obtain ⟨j, h1, h2, h3, h4, h5⟩ := atI_get he
  obtain ⟨w, ew, rw'⟩ := r.get h2
  have hl := r.length
  have hn := line63
  have fin : EP X pins σ Q w s := ⟨z, H, I, rw', q⟩
  by_cases h0 : 0 ≤ k
  · have hj : k.toNat = j := by
      rw [seqIndex_of h0 h5] at h1
      exact Option.some.inj h1
    exact wpAny_getItem_list pl.isList h0 (by omega) (by rw [hj]; simpa using ew) fin
  · have hj : (k + (its.toArray.size : Int)).toNat = j := by
      rw [seqIndex_neg (by omega) h4] at h1
      rw [List.size_toArray, ← hl]
      exact Option.some.inj h1
    exact wpAny_getItem_list_neg pl.isList (by omega) (by rw [List.size_toArray] <;> omega) (by omega) (by rw [hj]; simpa using ew) fin
/-! ### data: addresses spread over sides -/
def fp (k : Nat) (A : Nat) : Nat := if h : A = 0 ∨ k = 0 then 0 else (A % 2 ^ k) ^^^ fp k (A / 2 ^ k)
termination_by A
decreasing_by
  have h1 : A ≠ 0 := fun e => h (.inl e)
  have h2 : k ≠ 0 := fun e => h (.inr e)
  exact Nat.div_lt_self (by omega) (Nat.one_lt_two_pow h2)
theorem fp_zero {A : Nat} : fp 0 A = 0 := by rw [fp]; simp
theorem fp_nil {k : Nat} : fp k 0 = 0 := by rw [fp]; simp
theorem fp_eq {k A : Nat} (h : 0 < k) : fp k A = (A % 2 ^ k) ^^^ fp k (A / 2 ^ k) := by
  by_cases c : A = 0
  · subst c
    rw [Nat.zero_mod, Nat.zero_div, fp_nil] <;> rfl
  · rw [fp, dif_neg (by omega)]
theorem fp_lt {k : Nat} : ∀ A, fp k A < 2 ^ k := by
  intro A
  induction A using Nat.strongRecOn with
  | _ A ih =>
    by_cases c : A = 0 ∨ k = 0
    · rw [fp, dif_pos c]
      exact Nat.two_pow_pos k
    · rw [fp, dif_neg c]
      have h2 : k ≠ 0 := fun e => c (.inr e)
      exact Nat.xor_lt_two_pow (Nat.mod_lt _ (Nat.two_pow_pos k)) (ih _ (Nat.div_lt_self (by omega) (Nat.one_lt_two_pow h2)))
/-- the law's own, figure by figure -/
def lw (k : Nat) : Nat → Nat → Nat → Nat
  | 0, _, _ => 0
  | n + 1, at_, A => ((A % 2) <<< (at_ % k)) ^^^ lw k n (at_ + 1) (A / 2)
theorem lw_nil {k : Nat} : ∀ n at_, lw k n at_ 0 = 0
  | 0, _ => rfl
  | n + 1, at_ => by
    show ((0 % 2) <<< (at_ % k)) ^^^ lw k n (at_ + 1) (0 / 2) = 0
    rw [Nat.zero_mod, Nat.zero_div, lw_nil, Nat.zero_shiftLeft] <;> rfl
theorem lw_shift {k : Nat} : ∀ n at_ A, lw k n (at_ + k) A = lw k n at_ A
  | 0, _, _ => rfl
  | n + 1, at_, A => by
    show ((A % 2) <<< ((at_ + k) % k)) ^^^ lw k n (at_ + k + 1) (A / 2) = ((A % 2) <<< (at_ % k)) ^^^ lw k n (at_ + 1) (A / 2)
    rw [Nat.add_mod_right, show at_ + k + 1 = at_ + 1 + k by omega, lw_shift]
/-- more fuel than the number -/
theorem lw_fuel {k : Nat} : ∀ n at_ A, A ≤ n → lw k (n + 1) at_ A = lw k n at_ A
  | 0, at_, A, h => by
    have : A = 0 := by omega
    subst this
    rw [lw_nil, lw_nil]
  | n + 1, at_, A, h => by
    show ((A % 2) <<< (at_ % k)) ^^^ lw k (n + 1) (at_ + 1) (A / 2) = ((A % 2) <<< (at_ % k)) ^^^ lw k n (at_ + 1) (A / 2)
    rw [lw_fuel n _ _ (by omega)]
def ls (k at_ A : Nat) : Nat := lw k A at_ A
theorem lw_ls {k : Nat} : ∀ n at_ A, A ≤ n → lw k n at_ A = ls k at_ A := by
  intro n
  induction n with
  | zero =>
    intro at_ A h
    have : A = 0 := by omega
    subst this
    rfl
  | succ n ih =>
    intro at_ A h
    by_cases c : A = n + 1
    · subst c; rfl
    · rw [lw_fuel n _ _ (by omega), ih _ _ (by omega)]
theorem ls_eq {k at_ A : Nat} : ls k at_ A = ((A % 2) <<< (at_ % k)) ^^^ ls k (at_ + 1) (A / 2) := by
  by_cases c : A = 0
  · subst c
    show 0 = (0 <<< _) ^^^ 0
    rw [Nat.zero_shiftLeft] <;> rfl
  · obtain ⟨n, rfl⟩ : ∃ n, A = n + 1 := ⟨A - 1, by omega⟩
    show ((n + 1) % 2) <<< (at_ % k) ^^^ lw k n (at_ + 1) ((n + 1) / 2) = _
    rw [lw_ls _ _ _ (by omega)]
theorem ls_nil {k at_ : Nat} : ls k at_ 0 = 0 := rfl
theorem ls_turn {k at_ A : Nat} : ls k (at_ + k) A = ls k at_ A := lw_shift _ _ _
theorem par2 : ∀ r, r < 4 → (r % 2) <<< 0 ^^^ ((r / 2 % 2) <<< 1) = r := by decide
theorem par3 : ∀ r, r < 8 → (r % 2) <<< 0 ^^^ ((r / 2 % 2) <<< 1) ^^^ ((r / 2 / 2 % 2) <<< 2) = r := by decide
theorem par4 : ∀ r, r < 16 → (r % 2) <<< 0 ^^^ ((r / 2 % 2) <<< 1) ^^^ ((r / 2 / 2 % 2) <<< 2) ^^^ ((r / 2 / 2 / 2 % 2) <<< 3) = r := by decide
theorem ls_step {k A : Nat} (h0 : 0 < k) (h4 : k ≤ 4) : ls k 0 A = (A % 2 ^ k) ^^^ ls k 0 (A / 2 ^ k) := by
  have t := ls_turn (k := k) (at_ := 0) (A := A / 2 ^ k)
  rw [← t, Nat.zero_add]
  obtain rfl | rfl | rfl | rfl : k = 1 ∨ k = 2 ∨ k = 3 ∨ k = 4 := by omega
  · rw [ls_eq (A := A)] <;> rfl
  · rw [ls_eq (A := A), ls_eq (A := A / 2), ← Nat.xor_assoc]
    have e := par2 (A % 4) (by omega)
    rw [show A % 4 % 2 = A % 2 by omega, show A % 4 / 2 % 2 = A / 2 % 2 by omega] at e
    show ((A % 2) <<< 0 ^^^ ((A / 2 % 2) <<< 1)) ^^^ ls 2 2 (A / 2 / 2) = (A % 4) ^^^ ls 2 2 (A / 4)
    rw [e, show A / 2 / 2 = A / 4 by omega]
  · rw [ls_eq (A := A), ls_eq (A := A / 2), ls_eq (A := A / 2 / 2), ← Nat.xor_assoc, ← Nat.xor_assoc]
    have e := par3 (A % 8) (by omega)
    rw [show A % 8 % 2 = A % 2 by omega, show A % 8 / 2 % 2 = A / 2 % 2 by omega, show A % 8 / 2 / 2 % 2 = A / 2 / 2 % 2 by omega] at e
    show ((A % 2) <<< 0 ^^^ ((A / 2 % 2) <<< 1) ^^^ ((A / 2 / 2 % 2) <<< 2)) ^^^ ls 3 3 (A / 2 / 2 / 2) = (A % 8) ^^^ ls 3 3 (A / 8)
    rw [e, show A / 2 / 2 / 2 = A / 8 by omega]
  · rw [ls_eq (A := A), ls_eq (A := A / 2), ls_eq (A := A / 2 / 2), ls_eq (A := A / 2 / 2 / 2), ← Nat.xor_assoc, ← Nat.xor_assoc, ← Nat.xor_assoc]
    have e := par4 (A % 16) (by omega)
    rw [show A % 16 % 2 = A % 2 by omega, show A % 16 / 2 % 2 = A / 2 % 2 by omega, show A % 16 / 2 / 2 % 2 = A / 2 / 2 % 2 by omega, show A % 16 / 2 / 2 / 2 % 2 = A / 2 / 2 / 2 % 2 by omega] at e
    show ((A % 2) <<< 0 ^^^ ((A / 2 % 2) <<< 1) ^^^ ((A / 2 / 2 % 2) <<< 2) ^^^ ((A / 2 / 2 / 2 % 2) <<< 3)) ^^^ ls 4 4 (A / 2 / 2 / 2 / 2) = (A % 16) ^^^ ls 4 4 (A / 16)
    rw [e, show A / 2 / 2 / 2 / 2 = A / 16 by omega]
theorem ls_fp {k : Nat} (h0 : 0 < k) (h4 : k ≤ 4) : ∀ A, ls k 0 A = fp k A := by
  intro A
  induction A using Nat.strongRecOn with
  | _ A ih =>
    by_cases c : A = 0
    · subst c; rw [ls_nil, fp_nil]
    · rw [ls_step h0 h4, fp_eq h0, ih _ (Nat.div_lt_self (by omega) (Nat.one_lt_two_pow (by omega)))]
/-- back from side and place -/
def adr (k s p : Nat) : Nat := p * 2 ^ k + (s ^^^ fp k p)
theorem adr_part {k s p : Nat} (h : s < 2 ^ k) : adr k s p % 2 ^ k = s ^^^ fp k p ∧ adr k s p / 2 ^ k = p := by
  have h1 := Nat.xor_lt_two_pow h (fp_lt (k := k) p)
  unfold adr
  refine ⟨?_, ?_⟩
  · rw [Nat.mul_comm, Nat.mul_add_mod, Nat.mod_eq_of_lt h1]
  · rw [Nat.mul_comm, Nat.mul_add_div (Nat.two_pow_pos k), Nat.div_eq_of_lt h1, Nat.add_zero]
theorem fp_adr {k s p : Nat} (h : s < 2 ^ k) : fp k (adr k s p) = s := by
  by_cases c : k = 0
  · subst c
    rw [fp_zero]
    have : s < 1 := h
    omega
  · obtain ⟨h1, h2⟩ := adr_part (p := p) h
    rw [fp_eq (by omega), h1, h2, Nat.xor_assoc, Nat.xor_self, Nat.xor_zero]
theorem adr_fp {k A : Nat} : adr k (fp k A) (A / 2 ^ k) = A := by
  unfold adr
  by_cases c : k = 0
  · subst c
    rw [fp_zero, fp_zero]
    show A / 1 * 1 + 0 = A
    omega
  · have h := fp_eq (k := k) (A := A) (by omega)
    have e : fp k A ^^^ fp k (A / 2 ^ k) = A % 2 ^ k := by rw [h, Nat.xor_assoc, Nat.xor_self, Nat.xor_zero]
    rw [e, Nat.mul_comm]
    exact Nat.div_add_mod A (2 ^ k)
/-- a block of neighbours -/
theorem fp_block {k p t : Nat} (h : t < 2 ^ k) : fp k (p * 2 ^ k + t) = t ^^^ fp k p := by
  by_cases c : k = 0
  · subst c
    have : t < 1 := h
    have : t = 0 := by omega
    subst this
    rw [fp_zero, fp_zero] <;> rfl
  · rw [fp_eq (by omega), Nat.mul_comm, Nat.mul_add_mod, Nat.mod_eq_of_lt h, Nat.mul_add_div (Nat.two_pow_pos k), Nat.div_eq_of_lt h, Nat.add_zero]
/-- the figures of a side -/
def bitsL (m s : Nat) : List Int := (List.range m).map fun j => ((s / 2 ^ j % 2 : Nat) : Int)
theorem bits_set : ∀ k, k < 5 → ∀ s, s < 2 ^ k → ∀ j, j < k → ∀ b, b < 2 → (bitsL k s).set j ((((s / 2 ^ j % 2 : Nat) : Int) + (b : Nat)) % 2) = bitsL k (s ^^^ (b <<< j)) ∧ s ^^^ (b <<< j) < 2 ^ k := by decide +kernel
theorem bits_sum : ∀ k, k < 5 → ∀ s, s < 2 ^ k → ((List.range k).map fun j => (((s / 2 ^ j % 2 : Nat) : Int) * 2 ^ j : Int)).sum = s := by decide +kernel
theorem block_perm : ∀ k, k < 5 → ∀ s, s < 2 ^ k → (((List.range (2 ^ k)).map fun t : Nat => ((t ^^^ s : Nat) : Int)).isPerm ((List.range (2 ^ k)).map fun t : Nat => (t : Int))) = true := by decide +kernel
theorem pw_unique : ∀ {xs ys : List Int}, xs.Perm ys → xs.Pairwise (· ≤ ·) → ys.Pairwise (· ≤ ·) → xs = ys := by
  intro xs ys h h1 h2
  exact h.eq_of_pairwise (fun a b _ _ h1 h2 => Int.le_antisymm h1 h2) h1 h2
theorem range_pw (n : Nat) : ((List.range n).map fun t : Nat => (t : Int)).Pairwise (· ≤ ·) := by
  rw [List.pairwise_map]
  exact List.Pairwise.imp (fun h => by omega) List.pairwise_lt_range
/-! ### data: how many lie at each side -/
def cn (N : Nat) (ss : List Nat) : List Int := (List.range N).map fun j => ((ss.count j : Nat) : Int)
theorem cn_len {N : Nat} {ss : List Nat} : (cn N ss).length = N := by unfold cn; rw [List.length_map, List.length_range]
theorem cn_at {N j : Nat} {ss : List Nat} (h : j < N) : (cn N ss)[j]? = some ((ss.count j : Nat) : Int) := by
  unfold cn
  rw [List.getElem?_map, List.getElem?_range h] <;> rfl
theorem cn_set {N j : Nat} {ss : List Nat} (h : j < N) : (cn N ss).set j (((ss.count j : Nat) : Int) + 1) = cn N (ss ++ [j]) := by
  refine List.ext_getElem? fun i => ?_
  rw [List.getElem?_set, cn_len]
  by_cases c : j = i
  · subst c
    rw [if_pos rfl, if_pos h, cn_at h, List.count_append, List.count_singleton_self]
    push_cast; rfl
  · rw [if_neg c]
    by_cases d : i < N
    · rw [cn_at d, cn_at d, List.count_append, List.count_singleton, if_neg (by simpa using c), Nat.add_zero]
    · rw [List.getElem?_eq_none (by rw [cn_len]; omega), List.getElem?_eq_none (by rw [cn_len]; omega)]
theorem cn_nil {N : Nat} : cn N [] = List.replicate N 0 := by
  unfold cn
  refine List.ext_getElem? fun i => ?_
  by_cases c : i < N
  · rw [List.getElem?_map, List.getElem?_range c, List.getElem?_replicate, if_pos c] <;> rfl
  · rw [List.getElem?_eq_none (by rw [List.length_map, List.length_range]; omega), List.getElem?_eq_none (by rw [List.length_replicate]; omega)]
theorem rep_flat (n : Nat) (x : Int) : (List.replicate n [V.int x]).flatten = (List.replicate n x).map V.int := by
  induction n with
  | zero => rfl
  | succ n ih => rw [List.replicate_succ, List.flatten_cons, ih, List.replicate_succ] <;> rfl
def sds (k b s m : Nat) : List Nat := (List.range m).map fun t => fp k (b + t * s)
theorem sds_succ {k b s m : Nat} : sds k b s (m + 1) = sds k b s m ++ [fp k (b + m * s)] := by
  unfold sds
  rw [List.range_succ, List.map_append] <;> rfl
/-- what lies, turned about -/
theorem lw_split {k : Nat} : ∀ n r at_ A, lw k (n + r) at_ A = lw k n at_ A ^^^ lw k r (at_ + n) (A / 2 ^ n)
  | 0, r, at_, A => by
    rw [Nat.zero_add]
    show _ = 0 ^^^ lw k r (at_ + 0) (A / 1)
    rw [Nat.zero_xor, Nat.div_one, Nat.add_zero]
  | n + 1, r, at_, A => by
    rw [show n + 1 + r = (n + r) + 1 by omega]
    show ((A % 2) <<< (at_ % k)) ^^^ lw k (n + r) (at_ + 1) (A / 2) = (((A % 2) <<< (at_ % k)) ^^^ lw k n (at_ + 1) (A / 2)) ^^^ lw k r (at_ + (n + 1)) (A / 2 ^ (n + 1))
    rw [lw_split n r, Nat.xor_assoc, Nat.div_div_eq_div_mul, show at_ + 1 + n = at_ + (n + 1) by omega, show 2 * 2 ^ n = 2 ^ (n + 1) by rw [Nat.pow_succ]; omega]
theorem lw_low {k : Nat} : ∀ n at_ A B, A % 2 ^ n = B % 2 ^ n → lw k n at_ A = lw k n at_ B
  | 0, _, _, _, _ => rfl
  | n + 1, at_, A, B, h => by
    have h1 : A % 2 = B % 2 := by
      have e := congrArg (· % 2) h
      have d : 2 ∣ 2 ^ (n + 1) := ⟨2 ^ n, by rw [Nat.pow_succ]; omega⟩
      simpa [Nat.mod_mod_of_dvd _ d] using e
    have h2 : A / 2 % 2 ^ n = B / 2 % 2 ^ n := by
      have e := congrArg (· / 2) h
      rw [Nat.pow_succ, Nat.mul_comm] at e
      simpa [Nat.mod_mul_right_div_self] using e
    show ((A % 2) <<< (at_ % k)) ^^^ lw k n (at_ + 1) (A / 2) = ((B % 2) <<< (at_ % k)) ^^^ lw k n (at_ + 1) (B / 2)
    rw [h1, lw_low n _ _ _ h2]
theorem lw_congr {k : Nat} : ∀ n a b A, a % k = b % k → lw k n a A = lw k n b A
  | 0, _, _, _, _ => rfl
  | n + 1, a, b, A, h => by
    show ((A % 2) <<< (a % k)) ^^^ lw k n (a + 1) (A / 2) = ((A % 2) <<< (b % k)) ^^^ lw k n (b + 1) (A / 2)
    rw [h, lw_congr n (a + 1) (b + 1) _ (by rw [Nat.add_mod, h, ← Nat.add_mod])]
theorem bit_lt {k b j : Nat} (hb : b < 2) (hj : j < k) : b <<< j < 2 ^ k := by
  rw [Nat.shiftLeft_eq]
  have h1 : 2 ^ (j + 1) ≤ 2 ^ k := Nat.pow_le_pow_right (by decide) (by omega)
  have h2 : b * 2 ^ j ≤ 1 * 2 ^ j := Nat.mul_le_mul_right _ (by omega)
  have h3 := Nat.two_pow_pos j
  rw [Nat.pow_succ] at h1
  omega
theorem lw_lt {k : Nat} (h : 0 < k) : ∀ n a A, lw k n a A < 2 ^ k
  | 0, _, _ => Nat.two_pow_pos k
  | n + 1, a, A => Nat.xor_lt_two_pow (bit_lt (by omega) (Nat.mod_lt _ h)) (lw_lt h n _ _)
theorem ls_shift {k : Nat} : ∀ e a x, ls k a (2 ^ e * x) = ls k (a + e) x
  | 0, a, x => by rw [show 2 ^ 0 * x = x by omega] <;> rfl
  | e + 1, a, x => by
    have e1 : 2 ^ (e + 1) * x = 2 * (2 ^ e * x) := by rw [Nat.pow_succ, Nat.mul_comm (2 ^ e) 2, Nat.mul_assoc]
    rw [e1, ls_eq, show 2 * (2 ^ e * x) % 2 = 0 by omega, show 2 * (2 ^ e * x) / 2 = 2 ^ e * x by omega, Nat.zero_shiftLeft, Nat.zero_xor, ls_shift e (a + 1) x, show a + 1 + e = a + (e + 1) by omega]
theorem ls_block {k e m t : Nat} (ht : t < 2 ^ k) : ls k e (2 ^ k * m + t) = lw k k (e % k) t ^^^ lw k m (e % k) m := by
  have hp := Nat.two_pow_pos k
  have hm : m ≤ 2 ^ k * m + t := by
    have : 1 * m ≤ 2 ^ k * m := Nat.mul_le_mul_right _ hp
    omega
  rw [← lw_ls (k + (2 ^ k * m + t)) e (2 ^ k * m + t) (by omega), lw_split, Nat.mul_add_div hp, Nat.div_eq_of_lt ht, Nat.add_zero, lw_ls _ _ _ hm]
  rw [lw_low k e (2 ^ k * m + t) t (by rw [Nat.mul_add_mod])]
  rw [lw_congr k e (e % k) t (Nat.mod_mod _ _).symm]
  show _ ^^^ lw k m (e + k) m = _
  rw [lw_congr m (e + k) (e % k) m (by rw [Nat.add_mod_right, Nat.mod_mod])]
theorem block_cn : ∀ k, k < 5 → ∀ e, e < 4 → ∀ c, c < 2 ^ k → cn (2 ^ k) ((List.range (2 ^ k)).map fun t => lw k k e t ^^^ c) = List.replicate (2 ^ k) 1 := by decide +kernel
theorem cn_block {k e m : Nat} (hk : k ≤ 4) : cn (2 ^ k) (sds k (2 ^ e * 2 ^ k * m) (2 ^ e) (2 ^ k)) = List.replicate (2 ^ k) 1 := by
  by_cases c : k = 0
  · subst c
    unfold sds
    rw [show (2 : Nat) ^ 0 = 1 from rfl]
    show cn 1 [fp 0 _] = _
    rw [fp_zero] <;> rfl
  · have h0 : 0 < k := by omega
    have e1 : sds k (2 ^ e * 2 ^ k * m) (2 ^ e) (2 ^ k) = (List.range (2 ^ k)).map fun t => lw k k (e % k) t ^^^ lw k m (e % k) m := by
      unfold sds
      refine List.map_congr_left fun t ht => ?_
      rw [← ls_block (List.mem_range.mp ht), ← ls_fp h0 hk, ← Nat.zero_add e, ← ls_shift, Nat.zero_add, Nat.mul_add, Nat.mul_assoc, Nat.mul_comm t]
    rw [e1]
    have he : e % k < k := Nat.mod_lt _ h0
    exact block_cn k (by omega) (e % k) (by omega) _ (lw_lt h0 _ _ _)
/-! ### the pot: digits, and a number mixed on -/
def PotAt (H : Hp) (p : Addr) : Prop := ∃ a b : Int, H p = some (.lst [.int a, .int b]) ∧ 0 ≤ a ∧ 0 ≤ b ∧ b < 2 ^ 40
theorem PotAt.same {H H' : Hp} {p : Addr} (e : Same H H') (h : PotAt H p) : PotAt H' p := by
  obtain ⟨a, b, h1, h2⟩ := h; exact ⟨a, b, e _ _ h1, h2⟩
theorem pot_ne {H : Hp} {p a : Addr} (h : PotAt H p) (n : H a = none) : a ≠ p := fun z => by obtain ⟨_, _, h1, _⟩ := h; rw [← z, n] at h1; cases h1
theorem PotAt.upd {H : Hp} {p D : Addr} {o : HO} (n : p ≠ D) (h : PotAt H p) : PotAt (L2.upd H D o) p := by
  obtain ⟨a, b, h1, h2⟩ := h; exact ⟨a, b, by rw [upd_ne n]; exact h1, h2⟩
abbrev far0 : Int := 3
section
variable {P : Program} {w : World} {K : PySem.W.Frag} {mg : Str → Option Value} {base : Heap} (B : Bl K mg)
include B
/-! ### the program: small looks -/
def spIsWhole : Sp := fun vs H Q _ => ∃ i, vs = [.int i] ∧ Q (.bl true) H
theorem k_is_whole (D : Df K mg "is_whole" s_is_whole ["thing"]) : Dn P w K mg base 1 "is_whole" ["thing"] spIsWhole := by
  refine D.ok fun f fd F => okG0 F sc_is_whole (fun vs H Q E h => ?_) (fun cdv A outer s H vs Q E hr h => ⟨_, (pss_one (ps_ret (pe_and (pe_callB (kk (K := K) (F := rIsi) (P := CallR _ _) call_isi) (by rfl) B.isinstance_ (by decide +kernel) (pa_cons (pv 0) (pa_cons (pe_bltn (v := .ty "int") (u := .type "int") (by rfl) B.int_ (by decide +kernel) rfl) pa_nil))) (pe_one (pe_not (pe_callB (kk (K := K) (F := rIsi) (P := CallR _ _) call_isi) (by rfl) B.isinstance_ (by decide +kernel) (pa_cons (pv 0) (pa_cons (pe_bltn (v := .ty "bool") (u := .type "bool") (by rfl) B.bool_ (by decide +kernel) rfl) pa_nil)))))))), ?_⟩)
  · obtain ⟨i, rfl, _⟩ := h; rfl
  · obtain ⟨i, rfl, q⟩ := h
    refine ⟨_, rfl, _, _, _, _, _, rfl, .ty _, .base (.int _), kit_ty (b := "int") (r := true) (by decide +kernel), _, rfl, iteT ?_⟩
    refine ⟨_, rfl, _, _, _, _, _, rfl, .ty _, .base (.int _), kit_ty (b := "bool") (r := false) (by decide +kernel), _, rfl, ?_⟩
    exact q
def spIsWithin : Sp := fun vs H Q _ => ∃ i a b : Int, vs = [.int i, .int a, .int b] ∧ a ≤ i ∧ i ≤ b ∧ Q (.bl true) H
theorem k_is_within (D : Df K mg "is_within" s_is_within ["thing", "least", "most"]) (D_is_whole : Dn P w K mg base 1 "is_whole" ["thing"] spIsWhole) : Dn P w K mg base 2 "is_within" ["thing", "least", "most"] spIsWithin := by
  refine D.ok fun f fd F => okG0 F sc_is_within (fun vs H Q E h => ?_) (fun cdv A outer s H vs Q E hr h => ⟨_, (pss_one (ps_ret (pe_and (pe_cD D_is_whole (hr.less (by decide)) rfl (pa_cons (pv 0) pa_nil)) (pe_one (pe_chain op_le op_le (pv 1) (pv 0) (pv 2)))))), ?_⟩)
  · obtain ⟨i, a, b, rfl, _⟩ := h; rfl
  · obtain ⟨i, a, b, rfl, h1, h2, q⟩ := h
    refine ⟨_, rfl, i, rfl, _, rfl, iteT ?_⟩
    refine ⟨_, rfl, _, rfl, _, _, rfl, rfl, _, rfl, ifT (decide_eq_true h1) ⟨_, rfl, _, _, rfl, rfl, ?_⟩⟩
    exact (show Q (.bl (decide (i ≤ b))) H by rw [decide_eq_true h2]; exact q)
def spWantNet : Sp := fun vs H Q _ => ∃ i d : Int, vs = [.int i, .int d] ∧ 0 ≤ i ∧ i ≤ d ∧ Q .non H
theorem k_want_net (D : Dfd K mg "want_net" s_want_net ["k", "deepest"] [.int 4]) (D_is_within : Dn P w K mg base 2 "is_within" ["thing", "least", "most"] spIsWithin) : DnD P w K mg base 3 "want_net" ["k", "deepest"] [.int 4] spWantNet := by
  refine D.ok fun f fd F => okG0A F sc_want_net (fun vs H Q E h => ?_) (fun cdv A outer s H vs Q E hr h => ⟨_, (pss_one (ps_if (pt_not (pt_val (pe_cD D_is_within (hr.less (by decide)) rfl (pa_cons (pv 0) (pa_cons pe_int (pa_cons (pv 1) pa_nil))))))
     (pss_one ps_never)
     pss_nil)), ?_⟩)
  · obtain ⟨i, d, rfl, _⟩ := h; rfl
  · obtain ⟨i, d, rfl, h1, h2, q⟩ := h
    exact ⟨_, rfl, _, rfl, i, 0, d, rfl, h1, h2, _, rfl, iteF q⟩
def spWantWithin : Sp := fun vs H Q _ => ∃ i a b : Int, vs = [.int i, .int a, .int b] ∧ a ≤ i ∧ i ≤ b ∧ Q .non H
theorem k_want_within (D : Df K mg "want_within" s_want_within ["thing", "least", "most"]) (D_is_within : Dn P w K mg base 2 "is_within" ["thing", "least", "most"] spIsWithin) : Dn P w K mg base 3 "want_within" ["thing", "least", "most"] spWantWithin := by
  refine D.ok fun f fd F => okG0 F sc_want_within (fun vs H Q E h => ?_) (fun cdv A outer s H vs Q E hr h => ⟨_, (pss_one (ps_if (pt_not (pt_val (pe_cD D_is_within (hr.less (by decide)) rfl (pa_cons (pv 0) (pa_cons (pv 1) (pa_cons (pv 2) pa_nil))))))
     (pss_one ps_never)
     pss_nil)), ?_⟩)
  · obtain ⟨i, a, b, rfl, _⟩ := h; rfl
  · obtain ⟨i, a, b, rfl, h1, h2, q⟩ := h
    exact ⟨_, rfl, _, rfl, _, rfl, i, a, b, rfl, h1, h2, _, rfl, iteF q⟩
def spWantFrom : Sp := fun vs H Q _ => ∃ i a : Int, vs = [.int i, .int a] ∧ a ≤ i ∧ Q .non H
theorem k_want_from (D : Df K mg "want_from" s_want_from ["thing", "least"]) (D_is_whole : Dn P w K mg base 1 "is_whole" ["thing"] spIsWhole) : Dn P w K mg base 2 "want_from" ["thing", "least"] spWantFrom := by
  refine D.ok fun f fd F => okG0 F sc_want_from (fun vs H Q E h => ?_) (fun cdv A outer s H vs Q E hr h => ⟨_, (pss_one (ps_if (PW.pt (pw_or (pt_not (pt_val (pe_cD D_is_whole (hr.less (by decide)) rfl (pa_cons (pv 0) pa_nil)))) (pw_or1 (pt_cmpR op_lt (pv 0) (pv 1) (nomark _)))))
     (pss_one ps_never)
     pss_nil)), ?_⟩)
  · obtain ⟨i, a, rfl, _⟩ := h; rfl
  · obtain ⟨i, a, rfl, h1, q⟩ := h
    exact ⟨_, rfl, i, rfl, _, rfl, iteF ⟨_, rfl, _, rfl, _, _, rfl, rfl, _, rfl, ifF (decide_eq_false (by omega)) q⟩⟩
omit B in
theorem shl_eq (k : Nat) : (1 * 2 ^ ((k : Int)).toNat : Int) = ((2 ^ k : Nat) : Int) := by rw [Int.toNat_natCast, Int.one_mul]; push_cast; rfl
omit B in
theorem shr_eq (k m : Nat) : ((m : Int) / 2 ^ ((k : Int)).toNat : Int) = ((m / 2 ^ k : Nat) : Int) := by rw [Int.toNat_natCast]; push_cast; rfl
omit B in
theorem mul_eq (k m : Nat) : ((m : Int) * 2 ^ ((k : Int)).toNat : Int) = ((m * 2 ^ k : Nat) : Int) := by rw [Int.toNat_natCast]; push_cast; rfl
omit B in
theorem xor_eq (a b : Nat) : Builtin.bitXor (a : Int) (b : Int) = ((a ^^^ b : Nat) : Int) := by rw [Bits.bitXor_pp (by omega) (by omega), Int.toNat_natCast, Int.toNat_natCast]
omit B in
theorem bits_one : Builtin.Int.intBits 1 ≤ 10 := by decide +kernel
omit B in
theorem shl_ok {n : Nat} (h : n ≤ 1000) : CShl 1 (n : Int) := by
  have := bits_one
  exact ⟨by omega, by omega⟩
omit B in
theorem shl_mid {i j : Int} (h : i.natAbs < 2 ^ 400) (h0 : 0 ≤ j) (h1 : j ≤ 1000) : CShl i j := by
  refine ⟨h0, ?_⟩
  have h2 := log_lt (n := 400) (by decide) h
  unfold Builtin.Int.intBits
  split <;> omega
omit B in
theorem mask_eq (k m : Nat) : Builtin.bitAnd (m : Int) (1 * 2 ^ ((k : Int)).toNat - 1) = ((m % 2 ^ k : Nat) : Int) := by
  rw [Int.toNat_natCast, Int.one_mul, Bits.bitAnd_mask k (by omega)]
  push_cast; rfl
def spPiece : Sp := fun vs H Q _ => ∃ k A : Nat, vs = [.int k, .int A] ∧ k ≤ 4 ∧ Q (.int ((A % 2 ^ k : Nat) : Int)) H
theorem k_piece_of (D : Df K mg "piece_of" s_piece_of ["k", "address"]) : Dn P w K mg base 1 "piece_of" ["k", "address"] spPiece := by
  refine D.ok fun f fd F => okG0 F sc_piece_of (fun vs H Q E h => ?_) (fun cdv A outer s H vs Q E hr h => ⟨_, (pss_one (ps_ret (pe_op op_and (pv 1) (pe_op op_sub (pe_op op_shlW pe_int (pv 0)) pe_int)))), ?_⟩)
  · obtain ⟨k, A, rfl, _⟩ := h; rfl
  · obtain ⟨k, A, rfl, hk, q⟩ := h
    refine ⟨_, rfl, _, rfl, _, _, rfl, rfl, shl_ok (by omega), _, _, rfl, rfl, _, _, rfl, rfl, ?_⟩
    exact qi q (mask_eq k A).symm
def spFolded8 : Sp := fun vs H Q _ => ∃ k A : Nat, vs = [.int k, .int A] ∧ 0 < k ∧ k ≤ 4 ∧ Q (.int ((fp k A : Nat) : Int)) H
theorem k_folded_pieces (D : Df K mg "folded_pieces" s_folded_pieces ["k", "address"]) (D_piece_of : Dn P w K mg base 1 "piece_of" ["k", "address"] spPiece) : Dn P w K mg base 2 "folded_pieces" ["k", "address"] spFolded8 := by
  refine D.ok fun f fd F => okG0 F sc_folded_pieces (fun vs H Q E h => ?_) (fun cdv A outer s H vs Q E hr h => ⟨_, (pss_cons (ps_set (i := 2) sc_folded_pieces.nd rfl (Or.inl rfl) pe_int)
    (pss_cons (ps_while PassesOwn.never (pt_cmpR op_gt (pv 1) pe_int (nomark _))
      (pss_cons (ps_set (i := 2) sc_folded_pieces.nd rfl (Or.inl rfl) (pe_op op_xor (pv 2) (pe_cD D_piece_of (hr.less (by decide)) rfl (pa_cons (pv 0) (pa_cons (pv 1) pa_nil)))))
      (pss_one (ps_set (i := 1) sc_folded_pieces.nd rfl (Or.inl rfl) (pe_op op_shr (pv 1) (pv 0))))))
    (pss_one (ps_ret (pv 2))))), ?_⟩)
  · obtain ⟨k, A, rfl, _⟩ := h; rfl
  · obtain ⟨k, A, rfl, h0, hk, q⟩ := h
    refine ⟨fun m σ H2 => ∃ f : Nat, σ = [some (.int k), some (.int (m : Nat)), some (.int f)] ∧ H2 = H ∧ f ^^^ fp k m = fp k A, ⟨A, 0, rfl, rfl, Nat.zero_xor _⟩, ?_⟩
    rintro m σ H2 ⟨f, rfl, rfl, hf⟩
    refine ⟨_, rfl, _, _, rfl, rfl, _, rfl, ite2 (fun c => ?_) (fun c => ?_)⟩
    · have c' : (0 : Int) < (m : Nat) := of_decide_eq_true c
      refine ⟨fun σ' H' => ∃ f : Nat, σ' = [some (.int k), some (.int ((m / 2 ^ k : Nat) : Int)), some (.int f)] ∧ H' = H2 ∧ f ^^^ fp k (m / 2 ^ k) = fp k A, fun σ' H' h => ⟨m / 2 ^ k, Nat.div_lt_self (by omega) (Nat.one_lt_two_pow (by omega)), h⟩, ?_⟩
      refine ⟨_, rfl, _, rfl, _, rfl, k, m, rfl, hk, _, _, rfl, rfl, ?_⟩
      refine ⟨_, rfl, _, rfl, _, _, rfl, rfl, by omega, ?_⟩
      refine ⟨f ^^^ (m % 2 ^ k), ?_, rfl, by rw [Nat.xor_assoc, ← fp_eq h0]; exact hf⟩
      show [some (V.int k), some (V.int ((m : Int) / 2 ^ ((k : Int)).toNat)), some (V.int (Builtin.bitXor (f : Int) ((m % 2 ^ k : Nat) : Int)))] = _
      rw [shr_eq, xor_eq] <;> rfl
    · have c' : m = 0 := by
        rcases Nat.eq_zero_or_pos m with e | e
        · exact e
        · exact absurd (decide_eq_true (show (0 : Int) < (m : Nat) by omega)) c
      subst c'
      rw [fp_nil, Nat.xor_zero] at hf
      exact ⟨_, rfl, by rw [hf]; exact q⟩
def spSideAt : Sp := fun vs H Q _ => ∃ k A : Nat, vs = [.int k, .int A] ∧ k ≤ 4 ∧ Q (.int ((fp k A : Nat) : Int)) H
theorem k_side_at (D : Df K mg "side_at" s_side_at ["k", "address"]) (D_folded_pieces : Dn P w K mg base 2 "folded_pieces" ["k", "address"] spFolded8) : Dn P w K mg base 3 "side_at" ["k", "address"] spSideAt := by
  refine D.ok fun f fd F => okG0 F sc_side_at (fun vs H Q E h => ?_) (fun cdv A outer s H vs Q E hr h => ⟨_, (pss_one (ps_ret (pe_ifExp (pt_cmpR op_eq (pv 0) pe_int (nomark _)) pe_int (pe_cD D_folded_pieces (hr.less (by decide)) rfl (pa_cons (pv 0) (pa_cons (pv 1) pa_nil)))))), ?_⟩)
  · obtain ⟨k, A, rfl, _⟩ := h; rfl
  · obtain ⟨k, A, rfl, hk, q⟩ := h
    refine ⟨_, rfl, rfl, _, rfl, ite2 (fun c => ?_) (fun c => ?_)⟩
    · have c' : k = 0 := by
        have := of_decide_eq_true c
        injection this with e
        omega
      subst c'
      rw [fp_zero] at q
      exact q
    · have c' : 0 < k := by
        rcases Nat.eq_zero_or_pos k with e | e
        · subst e; exact absurd (decide_eq_true rfl) c
        · exact e
      exact ⟨_, rfl, _, rfl, k, A, rfl, c', hk, q⟩
omit B in
theorem menu4 {a b c d : Int} : ∀ j : Nat, j < 4 → ∃ z : Int, ([.int a, .int b, .int c, .int d] : List V)[j]? = some (.int z) ∧ (z = a ∨ z = b ∨ z = c ∨ z = d)
  | 0, _ => ⟨_, rfl, .inl rfl⟩
  | 1, _ => ⟨_, rfl, .inr (.inl rfl)⟩
  | 2, _ => ⟨_, rfl, .inr (.inr (.inl rfl))⟩
  | 3, _ => ⟨_, rfl, .inr (.inr (.inr rfl))⟩
  | n + 4, h => absurd h (by omega)
/-! ### the law's own draws -/
def spCell (K : PySem.W.Frag) : Sp := fun vs H Q _ => ∃ (a : Addr) (ns : List Int) (k : Nat), vs = [.ref a, .int k] ∧ SqL K H a (ns.map V.int) ∧ ∀ c : Int, Q (.int c) H
theorem k__law_cell (D : Df K mg "_law_cell" s__law_cell ["_law_script", "_law_k"]) : Dn P w K mg base 1 "_law_cell" ["_law_script", "_law_k"] (spCell K) := by
  refine D.ok fun f fd F => okG0 F sc__law_cell (fun vs H Q E h => ?_) (fun cdv A outer s H vs Q E hr h => ⟨_, (pss_cons (ps_if (pt_cmpR op_lt (pv 1) (pe_callB (lenK (K := K)) (by rfl) B.len_ (by decide +kernel) (pa_cons (pv 0) pa_nil)) (nomark _))
      (pss_one (ps_ret (pe_ix (kk (K := K) (F := rIxL) (P := IxR _) ix_list) (pv 0) (pv 1) (fun _ _ => rfl))))
      pss_nil)
    (pss_one (ps_ret pe_int))), ?_⟩)
  · obtain ⟨a, ns, k, rfl, _⟩ := h; rfl
  · obtain ⟨a, ns, k, rfl, hs, q⟩ := h
    refine ⟨_, rfl, _, rfl, a, _, rfl, .inl hs, _, _, rfl, rfl, _, rfl, ite2 (fun c => ?_) (fun c => ?_)⟩
    · have c' : (k : Int) < ((ns.map V.int).length : Nat) := of_decide_eq_true c
      have hk2 : k < ns.length := by rw [List.length_map] at c'; omega
      exact ⟨_, rfl, _, rfl, a, _, _, _, rfl, rfl, hs, at_of (j := k) rfl (by rw [List.getElem?_map, List.getElem?_eq_getElem hk2] <;> rfl), q _⟩
    · exact q 0
def spPot (K : PySem.W.Frag) : Sp := fun vs H Q _ => ∃ (a : Addr) (ns : List Int) (k : Nat), vs = [.ref a, .int k] ∧ SqL K H a (ns.map V.int) ∧ k ≤ 60 ∧ ∀ p H', H p = none → Same H H' → PotAt H' p → Q (.ref p) H'
theorem k__law_pot (D : Df K mg "_law_pot" s__law_pot ["_law_script", "_law_k"]) (D__law_cell : Dn P w K mg base 1 "_law_cell" ["_law_script", "_law_k"] (spCell K)) : Dn P w K mg base 2 "_law_pot" ["_law_script", "_law_k"] (spPot K) := by
  refine D.ok fun f fd F => okG0 F sc__law_pot (fun vs H Q E h => ?_) (fun cdv A outer s H vs Q E hr h => ⟨_, (pss_cons (ps_set (i := 2) sc__law_pot.nd rfl (Or.inl rfl) (pe_cD D__law_cell (hr.less (by decide)) rfl (pa_cons (pv 0) (pa_cons (pv 1) pa_nil))))
    (pss_cons (ps_set (i := 3) sc__law_pot.nd rfl (Or.inl rfl) (pe_op op_mod (pe_op op_mulX (pe_op op_add (pe_op op_mod (pv 2) pe_int) pe_int) pe_int) pe_int))
    (pss_one (ps_ret (pe_lst (pa_cons (pe_callB (call_max2 rfl) (by rfl) B.max_ (by decide +kernel) (pa_cons pe_int (pa_cons (pe_op op_sub (pv 2) (pe_op op_pow pe_int pe_int)) pa_nil))) (pa_cons (pe_op op_add (pe_op op_mod (pe_op op_add (pe_op op_mulX (pv 3) (pv 3)) (pe_op op_mulX pe_int (pv 1))) pe_int) pe_int) pa_nil))))))), ?_⟩)
  · obtain ⟨a, ns, k, rfl, _⟩ := h; rfl
  · obtain ⟨a, ns, k, rfl, hs, hk, q⟩ := h
    refine ⟨_, rfl, _, rfl, a, ns, k, rfl, hs, fun c => ?_⟩
    have m1 := Int.emod_nonneg c (by decide : (2147483629 : Int) ≠ 0)
    have m2 := Int.emod_lt_of_pos c (by decide : (0 : Int) < 2147483629)
    refine ⟨_, rfl, _, _, rfl, rfl, pj, _, _, rfl, rfl, _, _, rfl, rfl, mulx 32 16 (by omega) (by decide), _, _, rfl, rfl, pj, ?_⟩
    have g1 := Int.emod_nonneg ((c % 2147483629 + 1) * 48271) (by decide : (2147483647 : Int) ≠ 0)
    have g2 := Int.emod_lt_of_pos ((c % 2147483629 + 1) * 48271) (by decide : (0 : Int) < 2147483647)
    generalize (c % 2147483629 + 1) * 48271 % 2147483647 = g at g1 g2
    refine ⟨_, rfl, _, _, rfl, rfl, ⟨by decide, by decide, by decide⟩, _, _, rfl, rfl, _, _, rfl, ?_⟩
    refine ⟨_, rfl, _, rfl, _, _, rfl, rfl, mulx 32 32 (by omega) (by omega), _, rfl, _, _, rfl, rfl, mulx 13 10 (by decide) (by omega), _, _, rfl, rfl, _, _, rfl, rfl, pj, _, _, rfl, rfl, sz, fun p hp => ?_⟩
    have e1 := Int.emod_nonneg (g * g + 7919 * (k : Int)) (by decide : (2147483629 : Int) ≠ 0)
    have e2 := Int.emod_lt_of_pos (g * g + 7919 * (k : Int)) (by decide : (0 : Int) < 2147483629)
    refine q p _ hp (same_new hp _) ⟨_, _, upd_same, ?_, by omega, by omega⟩
    split <;> omega
def spTake : Sp := fun vs H Q _ => ∃ (p : Addr) (m : Int), vs = [.ref p, .int m] ∧ PotAt H p ∧ 1 ≤ m ∧ m < 2 ^ 200 ∧ ∀ (d : Int) H', 0 ≤ d → d < m → But p H H' → PotAt H' p → Q (.int d) H'
theorem k__law_draw (D : Df K mg "_law_draw" s__law_draw ["_law_pot_here", "_law_many"]) : Dn P w K mg base 1 "_law_draw" ["_law_pot_here", "_law_many"] spTake := by
  refine D.ok fun f fd F => okG0 F sc__law_draw (fun vs H Q E h => ?_) (fun cdv A outer s H vs Q E hr h => ⟨_, (pss_cons (ps_if (pt_cmpR op_gt (pe_ix (kk (K := K) (F := rIxL) (P := IxR _) ix_list) (pv 0) pe_int (fun _ _ => rfl)) pe_int (nomark _))
      (pss_cons (ps_asg (pe_callB call_divmodW (by rfl) B.divmod_ (by decide +kernel) (pa_cons (pe_ix (kk (K := K) (F := rIxL) (P := IxR _) ix_list) (pv 0) pe_int (fun _ _ => rfl)) (pa_cons (pv 1) pa_nil))) (kk (K := K) (F := fun K => gTup K 2 _) (P := PG _ _) (pg_tup rfl (pgs_cons (pg_sub (pv 0) pe_int set_list) (pgs_cons (pg_name (i := 2) sc__law_draw.nd rfl (Or.inl rfl)) pgs_nil)))))
      (pss_one (ps_ret (pv 2))))
      pss_nil)
    (pss_cons (ps_asg (pe_op op_mod (pe_op op_add (pe_op op_mulX (pe_ix (kk (K := K) (F := rIxL) (P := IxR _) ix_list) (pv 0) pe_int (fun _ _ => rfl)) pe_int) pe_int) pe_int) (pg_sub (pv 0) pe_int set_list))
    (pss_one (ps_ret (pe_op op_mod (pe_op op_fdivW (pe_op op_mod (pe_op op_mulX (pe_ix (kk (K := K) (F := rIxL) (P := IxR _) ix_list) (pv 0) pe_int (fun _ _ => rfl)) (pe_ix (kk (K := K) (F := rIxL) (P := IxR _) ix_list) (pv 0) pe_int (fun _ _ => rfl))) pe_int) pe_int) (pv 1)))))), ?_⟩)
  · obtain ⟨p, m, rfl, _⟩ := h; rfl
  · obtain ⟨p, m, rfl, ⟨a, b, hp, ha, hb, hb2⟩, hm, hm2, q⟩ := h
    refine ⟨_, rfl, p, _, _, _, rfl, rfl, SqL.of hp, at_of (j := 0) rfl rfl, _, _, rfl, rfl, _, rfl, ite2 (fun c => ?_) (fun c => ?_)⟩
    · refine ⟨_, rfl, p, _, _, _, rfl, rfl, SqL.of hp, at_of (j := 0) rfl rfl, _, rfl, _, _, rfl, divp_small (by omega) (Int.lt_trans hm2 (by decide)), fun t ht => ?_⟩
      have np : p ≠ t := ne_of_none hp ht
      refine ⟨t, _, rfl, SqT.of upd_same, rfl, _, _, rfl, _, rfl, p, _, _, _, rfl, rfl, by rw [upd_ne np]; exact hp, rfl, _, _, rfl, rfl, _, rfl, ?_⟩
      have h1 := Int.emod_nonneg a (by omega : m ≠ 0)
      have h2 := Int.emod_lt_of_pos a (by omega : 0 < m)
      have h3 := Int.ediv_nonneg ha (by omega : 0 ≤ m)
      exact q _ _ h1 h2 ((same_but (same_new ht _)).trans But.upd) ⟨_, _, upd_same, h3, hb, hb2⟩
    · have hm1 := Int.emod_nonneg (b * 39373 + 11) (by decide : (2147483647 : Int) ≠ 0)
      have hm3 := Int.emod_lt_of_pos (b * 39373 + 11) (by decide : (0 : Int) < 2147483647)
      refine ⟨_, rfl, p, _, _, _, rfl, rfl, SqL.of hp, at_of (j := 1) rfl rfl, _, _, rfl, rfl, mulx 40 16 (by omega) (by decide), _, _, rfl, rfl, _, _, rfl, rfl, pj, ?_⟩
      refine ⟨_, rfl, p, _, _, _, rfl, rfl, hp, rfl, ?_⟩
      refine ⟨_, rfl, p, _, _, _, rfl, rfl, SqL.of upd_same, at_of (j := 1) rfl rfl, _, rfl, p, _, _, _, rfl, rfl, SqL.of upd_same, at_of (j := 1) rfl rfl, _, _, rfl, rfl, mulx 31 31 (by omega) (by omega), ?_⟩
      refine ⟨_, _, rfl, rfl, pj, _, _, rfl, rfl, ⟨by decide, by decide⟩, _, rfl, _, _, rfl, rfl, hm, ?_⟩
      exact q _ _ (Int.emod_nonneg _ (by omega)) (Int.emod_lt_of_pos _ (by omega)) But.upd ⟨_, _, upd_same, ha, hm1, by omega⟩
def spFar : Sp := fun vs H Q _ => ∃ (p : Addr), vs = [.ref p] ∧ PotAt H p ∧ ∀ (d : Nat) H', d < 10 ^ 30 → But p H H' → PotAt H' p → Q (.int d) H'
theorem k__law_far (D : Df K mg "_law_far" s__law_far ["_law_pot_here"]) (D__law_draw : Dn P w K mg base 1 "_law_draw" ["_law_pot_here", "_law_many"] spTake) : Dn P w K mg base 2 "_law_far" ["_law_pot_here"] spFar := by
  refine D.ok fun f fd F => okG0 F sc__law_far (fun vs H Q E h => ?_) (fun cdv A outer s H vs Q E hr h => ⟨_, (pss_one (ps_ret (pe_cD D__law_draw (hr.less (by decide)) rfl (pa_cons (pv 0) (pa_cons (pe_ix (kk (K := K) (F := rIxL) (P := IxR _) ix_list) (pe_lst (pa_cons pe_int (pa_cons pe_int (pa_cons pe_int (pa_cons (pe_op op_pow pe_int pe_int) pa_nil))))) (pe_cD D__law_draw (hr.less (by decide)) rfl (pa_cons (pv 0) (pa_cons pe_int pa_nil))) (fun _ _ => rfl)) pa_nil))))), ?_⟩)
  · obtain ⟨p, rfl, _⟩ := h; rfl
  · obtain ⟨p, rfl, hp, q⟩ := h
    refine ⟨_, rfl, _, _, rfl, rfl, ⟨by decide, by decide, by decide⟩, sz, fun l hl => ?_⟩
    have S1 := same_new hl (.lst [.int far0, .int 40, .int 70000, .int (10 ^ 30)])
    refine ⟨_, rfl, p, 4, rfl, hp.same S1, by decide, by decide, fun d H1 d0 d4 b1 p1 => ?_⟩
    obtain ⟨j, rfl⟩ : ∃ j : Nat, d = (j : Int) := ⟨d.toNat, by omega⟩
    obtain ⟨z, hz, z1⟩ := menu4 (a := far0) (b := 40) (c := 70000) (d := 10 ^ 30) j (by omega)
    have nl : l ≠ p := pot_ne hp hl
    have z2 : 1 ≤ z ∧ z ≤ 10 ^ 30 := by rcases z1 with rfl | rfl | rfl | rfl <;> decide
    refine ⟨l, _, _, _, rfl, rfl, SqL.of (b1 _ _ nl upd_same), at_of (j := j) rfl hz, p, z, rfl, p1, z2.1, by omega, fun e H2 e0 e1 b2 p2 => ?_⟩
    obtain ⟨e', rfl⟩ : ∃ j : Nat, e = (j : Int) := ⟨e.toNat, by omega⟩
    exact q e' _ (by omega) ((same_but S1).trans (b1.trans b2)) p2
def spLying (K : PySem.W.Frag) : Sp := fun vs H Q _ => ∃ k b s m : Nat, vs = [.int k, .int b, .int s, .int m] ∧ k ≤ 4 ∧ b < 2 ^ 300 ∧ s < 2 ^ 300 ∧ m ≤ 200 ∧ ∀ T H', Same H H' → H' T = some (.tup ((cn (2 ^ k) (sds k b s m)).map V.int)) → Q (.ref T) H'
theorem k_lying (D : Df K mg "lying" s_lying ["k", "begin", "step", "many"]) (D_want_net : DnD P w K mg base 3 "want_net" ["k", "deepest"] [.int 4] spWantNet) (D_want_from : Dn P w K mg base 2 "want_from" ["thing", "least"] spWantFrom) (D_want_within : Dn P w K mg base 3 "want_within" ["thing", "least", "most"] spWantWithin) (D_side_at : Dn P w K mg base 3 "side_at" ["k", "address"] spSideAt) : Dn P w K mg base 4 "lying" ["k", "begin", "step", "many"] (spLying K) := by
  refine D.ok fun f fd F => okG0 F sc_lying (fun vs H Q E h => ?_) (fun cdv A outer s H vs Q E hr h => ⟨_, (pss_cons (ps_expr (pe_cDd D_want_net (hr.less (by decide)) rfl (pa_cons (pv 0) pa_nil)))
    (pss_cons (ps_expr (pe_cD D_want_from (hr.less (by decide)) rfl (pa_cons (pv 1) (pa_cons pe_int pa_nil))))
    (pss_cons (ps_expr (pe_cD D_want_from (hr.less (by decide)) rfl (pa_cons (pv 2) (pa_cons pe_int pa_nil))))
    (pss_cons (ps_expr (pe_cD D_want_within (hr.less (by decide)) rfl (pa_cons (pv 3) (pa_cons pe_int (pa_cons (pe_glob (v := .int 200) (u := .int 200 B.MOST_LAID_.choose) (by rfl) B.MOST_LAID_.choose_spec ⟨_, rfl⟩) pa_nil)))))
    (pss_cons (ps_set (i := 4) sc_lying.nd rfl (Or.inl rfl) (pe_op op_rep (pe_lst (pa_cons pe_int pa_nil)) (pe_op op_shlW pe_int (pv 0))))
    (pss_cons (ps_for PassesOwn.never rfl (pi_range1 (by rfl) B.range_ (pa_cons (pv 3) pa_nil)) (pg_name (i := 5) sc_lying.nd rfl (Or.inl rfl))
      (pss_one (ps_augS (pv 4) (pe_cD D_side_at (hr.less (by decide)) rfl (pa_cons (pv 0) (pa_cons (pe_op op_add (pv 1) (pe_op op_mulX (pv 5) (pv 2))) pa_nil))) get_listI pe_int ip_add set_list)))
    (pss_one (ps_ret (pe_callTy (tupOfK (K := K)) (by rfl) B.tuple_ (by decide +kernel) (pa_cons (pv 4) pa_nil)))))))))), ?_⟩)
  · obtain ⟨k, b, s, m, rfl, _⟩ := h; rfl
  · obtain ⟨k, b, s, m, rfl, hk, hb, hs, hm, q⟩ := h
    have e0 := Int.natCast_nonneg (2 ^ k)
    have eM : 2 ^ k ≤ 16 := (Nat.pow_le_pow_right (by decide) hk : 2 ^ k ≤ 2 ^ 4)
    refine ⟨_, rfl, (k : Int), 4, rfl, by omega, by omega, _, rfl, (b : Int), 0, rfl, by omega, _, rfl, (s : Int), 0, rfl, by omega, _, rfl, (m : Int), 0, 200, rfl, by omega, by omega, ?_⟩
    refine ⟨sz, fun l hl => ⟨_, rfl, _, _, rfl, rfl, shl_ok (by omega), l, _, _, rfl, rfl, upd_same, by rw [shl_eq]; omega, by rw [shl_eq]; omega, ?_, fun L hL => ?_⟩⟩
    · rw [shl_eq, Int.toNat_natCast]
      exact small (by show 1 * _ ≤ 1000; omega)
    rw [shl_eq, Int.toNat_natCast, rep_flat, ← cn_nil]
    have S0 := same_new hl (.lst [.int 0])
    refine ⟨_, rfl, _, rfl, by omega, by omega, ?_⟩
    rw [Int.toNat_natCast]
    refine for_range (lo := 0) (n := m) (fun i σ H2 => ∃ v : Option V, σ = [some (.int k), some (.int b), some (.int s), some (.int m), some (.ref L), v] ∧ Same (upd H l (.lst [.int 0])) H2 ∧ H2 L = some (.lst ((cn (2 ^ k) (sds k b s i)).map V.int))) ⟨none, rfl, same_new hL _, upd_same⟩ ?_ ?_
    · rintro i σ H2 hi ⟨v, rfl, S2, hL2⟩
      have hj := fp_lt (k := k) (b + i * s)
      refine ⟨_, rfl, _, rfl, _, rfl, _, rfl, _, rfl, _, _, rfl, rfl, mulx 10 300 (by omega) (by omega), _, _, rfl, rfl, k, b + i * s, ?_, hk, ?_⟩
      · show [V.int (k : Int), V.int ((b : Int) + (0 + (i : Int)) * s)] = _
        rw [Int.zero_add]; push_cast; rfl
      refine ⟨L, _, _, _, rfl, rfl, SqL.of hL2, at_of (j := fp k (b + i * s)) rfl (by rw [List.getElem?_map, cn_at hj] <;> rfl), _, _, rfl, rfl, L, _, _, _, rfl, rfl, hL2, ixn (by rw [List.length_map, cn_len]; exact hj), ?_⟩
      refine ⟨_, rfl, but_same hL S2 But.upd, ?_⟩
      rw [upd_same, sds_succ, ← cn_set hj, List.map_set] <;> rfl
    · rintro σ H2 ⟨v, rfl, S2, hL2⟩
      exact ⟨_, rfl, L, _, rfl, .inl ⟨SqL.of hL2, fun T hT => q T _ (S0.trans (S2.trans (same_new hT _))) upd_same⟩⟩
def spLSide2 : Sp := fun vs H Q _ => ∃ k A : Nat, vs = [.int k, .int A] ∧ k ≤ 4 ∧ Q (.int ((fp k A : Nat) : Int)) H
theorem k__law_side (D : Df K mg "_law_side" s__law_side ["_law_k", "_law_address"]) : Dn P w K mg base 1 "_law_side" ["_law_k", "_law_address"] spLSide2 := by
  refine D.ok fun f fd F => okG0 F sc__law_side (fun vs H Q E h => ?_) (fun cdv A outer s H vs Q E hr h => ⟨_, (pss_cons (ps_set (i := 2) sc__law_side.nd rfl (Or.inl rfl) pe_int)
    (pss_cons (ps_set (i := 3) sc__law_side.nd rfl (Or.inl rfl) pe_int)
    (pss_cons (ps_while PassesOwn.never (PW.pt (pw_and (pt_cmpR op_gt (pv 1) pe_int (nomark _)) (pw_and1 (pt_cmpR op_gt (pv 0) pe_int (nomark _)))))
      (pss_cons (ps_set (i := 2) sc__law_side.nd rfl (Or.inl rfl) (pe_op op_xor (pv 2) (pe_op op_shlW (pe_op op_mod (pv 1) pe_int) (pe_op op_mod (pv 3) (pv 0)))))
      (pss_cons (ps_set (i := 1) sc__law_side.nd rfl (Or.inl rfl) (pe_op op_fdivW (pv 1) pe_int))
      (pss_one (ps_set (i := 3) sc__law_side.nd rfl (Or.inl rfl) (pe_op op_add (pv 3) pe_int))))))
    (pss_one (ps_ret (pv 2)))))), ?_⟩)
  · obtain ⟨k, A, rfl, _⟩ := h; rfl
  · obtain ⟨k, A, rfl, hk, q⟩ := h
    refine ⟨fun m σ H2 => ∃ (s a : Nat), σ = [some (.int k), some (.int (m : Nat)), some (.int s), some (.int (a : Nat))] ∧ H2 = H ∧ s < 2 ^ k ∧ (0 < k → s ^^^ ls k a m = fp k A), ⟨A, 0, 0, rfl, rfl, Nat.two_pow_pos k, fun h => by rw [ls_fp h hk, Nat.zero_xor]⟩, ?_⟩
    rintro m σ H2 ⟨s, a, rfl, rfl, hs, hf⟩
    refine ⟨_, rfl, _, _, rfl, rfl, _, rfl, ite2 (fun c => ⟨_, rfl, _, _, rfl, rfl, _, rfl, ite2 (fun c2 => ?_) (fun c2 => ?_)⟩) (fun c => ?_)⟩
    · have c' : (0 : Int) < (m : Nat) := of_decide_eq_true c
      have c2' : (0 : Int) < (k : Nat) := of_decide_eq_true c2
      have hj : a % k < k := Nat.mod_lt _ (by omega)
      have ea : (a : Int) % (k : Int) = ((a % k : Nat) : Int) := (Int.natCast_emod a k).symm
      refine ⟨fun σ' H' => ∃ (s a : Nat), σ' = [some (.int k), some (.int ((m / 2 : Nat) : Int)), some (.int s), some (.int (a : Nat))] ∧ H' = H2 ∧ s < 2 ^ k ∧ (0 < k → s ^^^ ls k a (m / 2) = fp k A), fun σ' H' h => ⟨m / 2, by omega, h⟩, ?_⟩
      refine ⟨_, rfl, _, rfl, _, _, rfl, rfl, pj, _, rfl, _, rfl, _, _, rfl, rfl, by omega, _, _, rfl, rfl, shl_mid (by omega) (by rw [ea]; omega) (by rw [ea]; omega), _, _, rfl, rfl, ?_⟩
      refine ⟨_, rfl, _, _, rfl, rfl, ⟨by decide, by decide⟩, _, rfl, _, _, rfl, rfl, ?_⟩
      refine ⟨s ^^^ ((m % 2) <<< (a % k)), a + 1, ?_, rfl, Nat.xor_lt_two_pow hs (bit_lt (by omega) hj), fun h => ?_⟩
      · show [some (V.int (k : Int)), some (V.int ((m : Int) / 2)), some (V.int (Builtin.bitXor (s : Int) ((m : Int) % 2 * 2 ^ ((a : Int) % (k : Int)).toNat))), some (V.int ((a : Int) + 1))] = _
        rw [ea, show (m : Int) % 2 = ((m % 2 : Nat) : Int) by omega, mul_eq, xor_eq, Nat.shiftLeft_eq, show (m : Int) / 2 = ((m / 2 : Nat) : Int) by omega] <;> rfl
      · rw [← hf h, ls_eq (A := m), Nat.xor_assoc]
    all_goals
      have fin : fp k A = s := by
        by_cases e : k = 0
        · subst e
          have : s < 1 := hs
          rw [fp_zero]; omega
        · have : m = 0 := by
            rcases Nat.eq_zero_or_pos m with e2 | e2
            · exact e2
            · first
                | exact absurd (decide_eq_true (show (0 : Int) < (m : Nat) by omega)) c
                | exact absurd (decide_eq_true (show (0 : Int) < (k : Nat) by omega)) c2
          subst this
          rw [← hf (by omega), ls_nil, Nat.xor_zero]
      exact ⟨_, rfl, by rw [← fin]; exact q⟩
theorem k__law_counted (D : Df K mg "_law_counted" s__law_counted ["_law_k", "_law_begin", "_law_step", "_law_many"]) (D__law_side : Dn P w K mg base 1 "_law_side" ["_law_k", "_law_address"] spLSide2) : Dn P w K mg base 2 "_law_counted" ["_law_k", "_law_begin", "_law_step", "_law_many"] (spLying K) := by
  refine D.ok fun f fd F => okG0 F sc__law_counted (fun vs H Q E h => ?_) (fun cdv A outer s H vs Q E hr h => ⟨_, (pss_cons (ps_set (i := 4) sc__law_counted.nd rfl (Or.inl rfl) (pe_op op_rep (pe_lst (pa_cons pe_int pa_nil)) (pe_op op_shlW pe_int (pv 0))))
    (pss_cons (ps_for PassesOwn.never rfl (pi_range1 (by rfl) B.range_ (pa_cons (pv 3) pa_nil)) (pg_name (i := 5) sc__law_counted.nd rfl (Or.inl rfl))
      (pss_one (ps_augS (pv 4) (pe_cD D__law_side (hr.less (by decide)) rfl (pa_cons (pv 0) (pa_cons (pe_op op_add (pv 1) (pe_op op_mulX (pv 5) (pv 2))) pa_nil))) get_listI pe_int ip_add set_list)))
    (pss_one (ps_ret (pe_callTy (tupOfK (K := K)) (by rfl) B.tuple_ (by decide +kernel) (pa_cons (pv 4) pa_nil)))))), ?_⟩)
  · obtain ⟨k, b, s, m, rfl, _⟩ := h; rfl
  · obtain ⟨k, b, s, m, rfl, hk, hb, hs, hm, q⟩ := h
    have e0 := Int.natCast_nonneg (2 ^ k)
    have eM : 2 ^ k ≤ 16 := (Nat.pow_le_pow_right (by decide) hk : 2 ^ k ≤ 2 ^ 4)
    refine ⟨sz, fun l hl => ⟨_, rfl, _, _, rfl, rfl, shl_ok (by omega), l, _, _, rfl, rfl, upd_same, by rw [shl_eq]; omega, by rw [shl_eq]; omega, ?_, fun L hL => ?_⟩⟩
    · rw [shl_eq, Int.toNat_natCast]
      exact small (by show 1 * _ ≤ 1000; omega)
    rw [shl_eq, Int.toNat_natCast, rep_flat, ← cn_nil]
    have S0 := same_new hl (.lst [.int 0])
    refine ⟨_, rfl, _, rfl, by omega, by omega, ?_⟩
    rw [Int.toNat_natCast]
    refine for_range (lo := 0) (n := m) (fun i σ H2 => ∃ v : Option V, σ = [some (.int k), some (.int b), some (.int s), some (.int m), some (.ref L), v] ∧ Same (upd H l (.lst [.int 0])) H2 ∧ H2 L = some (.lst ((cn (2 ^ k) (sds k b s i)).map V.int))) ⟨none, rfl, same_new hL _, upd_same⟩ ?_ ?_
    · rintro i σ H2 hi ⟨v, rfl, S2, hL2⟩
      have hj := fp_lt (k := k) (b + i * s)
      refine ⟨_, rfl, _, rfl, _, rfl, _, rfl, _, rfl, _, _, rfl, rfl, mulx 10 300 (by omega) (by omega), _, _, rfl, rfl, k, b + i * s, ?_, hk, ?_⟩
      · show [V.int (k : Int), V.int ((b : Int) + (0 + (i : Int)) * s)] = _
        rw [Int.zero_add]; push_cast; rfl
      refine ⟨L, _, _, _, rfl, rfl, SqL.of hL2, at_of (j := fp k (b + i * s)) rfl (by rw [List.getElem?_map, cn_at hj] <;> rfl), _, _, rfl, rfl, L, _, _, _, rfl, rfl, hL2, ixn (by rw [List.length_map, cn_len]; exact hj), ?_⟩
      refine ⟨_, rfl, but_same hL S2 But.upd, ?_⟩
      rw [upd_same, sds_succ, ← cn_set hj, List.map_set] <;> rfl
    · rintro σ H2 ⟨v, rfl, S2, hL2⟩
      exact ⟨_, rfl, L, _, rfl, .inl ⟨SqL.of hL2, fun T hT => q T _ (S0.trans (S2.trans (same_new hT _))) upd_same⟩⟩
def spLaw (K : PySem.W.Frag) : Sp := fun vs H Q _ => ∃ (a : Addr) (ns : List Int), vs = [.ref a] ∧ SqL K H a (ns.map V.int) ∧ ns.length ≤ 63 ∧ ∀ H', Q (.bl true) H'
omit B in
theorem menu3 {a b c : Int} : ∀ j : Nat, j < 3 → ∃ z : Int, ([.int a, .int b, .int c] : List V)[j]? = some (.int z) ∧ (z = a ∨ z = b ∨ z = c)
  | 0, _ => ⟨_, rfl, .inl rfl⟩
  | 1, _ => ⟨_, rfl, .inr (.inl rfl)⟩
  | 2, _ => ⟨_, rfl, .inr (.inr rfl)⟩
  | n + 3, h => absurd h (by omega)
theorem k_law {f : Addr} {fd : FuncData} (F : Fun K "law" "law" s_law f fd) (D__law_pot : Dn P w K mg base 2 "_law_pot" ["_law_script", "_law_k"] (spPot K)) (D__law_draw : Dn P w K mg base 1 "_law_draw" ["_law_pot_here", "_law_many"] spTake) (D__law_far : Dn P w K mg base 2 "_law_far" ["_law_pot_here"] spFar) (D__law_counted : Dn P w K mg base 2 "_law_counted" ["_law_k", "_law_begin", "_law_step", "_law_many"] (spLying K)) (D__law_side : Dn P w K mg base 1 "_law_side" ["_law_k", "_law_address"] spLSide2) (D_lying : Dn P w K mg base 4 "lying" ["k", "begin", "step", "many"] (spLying K)) : FnG P w K mg base CX0 6 f fd ["_law_script"] (spLaw K) := by
  refine okG0 F sc_law (fun vs H Q E h => ?_) (fun cdv A outer s H vs Q E hr h => ⟨_, (pss_cons (ps_for PassesOwn.never rfl (pi_range1 (by rfl) B.range_ (pa_cons (pe_callB (call_max2 rfl) (by rfl) B.max_ (by decide +kernel) (pa_cons pe_int (pa_cons (pe_callB (call_min2 rfl) (by rfl) B.min_ (by decide +kernel) (pa_cons pe_int (pa_cons (pe_callB (lenK (K := K)) (by rfl) B.len_ (by decide +kernel) (pa_cons (pv 0) pa_nil)) pa_nil))) pa_nil))) pa_nil)) (pg_name (i := 1) sc_law.nd rfl (Or.inl rfl))
      (pss_cons (ps_set (i := 2) sc_law.nd rfl (Or.inl rfl) (pe_cD D__law_pot (hr.less (by decide)) rfl (pa_cons (pv 0) (pa_cons (pv 1) pa_nil))))
      (pss_cons (ps_set (i := 3) sc_law.nd rfl (Or.inl rfl) (pe_cD D__law_draw (hr.less (by decide)) rfl (pa_cons (pv 2) (pa_cons pe_int pa_nil))))
      (pss_cons (ps_set (i := 4) sc_law.nd rfl (Or.inl rfl) (pe_cD D__law_draw (hr.less (by decide)) rfl (pa_cons (pv 2) (pa_cons (pe_ix (kk (K := K) (F := rIxL) (P := IxR _) ix_list) (pe_lst (pa_cons pe_int (pa_cons pe_int (pa_cons pe_int pa_nil)))) (pe_cD D__law_draw (hr.less (by decide)) rfl (pa_cons (pv 2) (pa_cons pe_int pa_nil))) (fun _ _ => rfl)) pa_nil))))
      (pss_cons (ps_par (i := 5) (j := 6) rfl sc_law.nd rfl rfl (by decide) rfl rfl (pa_cons (pe_cD D__law_far (hr.less (by decide)) rfl (pa_cons (pv 2) pa_nil)) (pa_cons (pe_cD D__law_far (hr.less (by decide)) rfl (pa_cons (pv 2) pa_nil)) pa_nil)) (by rfl))
      (pss_cons (ps_if (pt_cmpR (kk (K := K) (F := rNeD) (P := OpR _ _) (op_neD hr.units)) (pe_cD D_lying (hr.less (by decide)) rfl (pa_cons (pv 3) (pa_cons (pv 5) (pa_cons (pv 6) (pa_cons (pv 4) pa_nil))))) (pe_cD D__law_counted (hr.less (by decide)) rfl (pa_cons (pv 3) (pa_cons (pv 5) (pa_cons (pv 6) (pa_cons (pv 4) pa_nil))))) (nomark _))
        (pss_one (ps_ret pe_bl))
        pss_nil)
      (pss_cons (ps_set (i := 7) sc_law.nd rfl (Or.inl rfl) (pe_op op_shlW pe_int (pe_cD D__law_draw (hr.less (by decide)) rfl (pa_cons (pv 2) (pa_cons pe_int pa_nil)))))
      (pss_cons (ps_set (i := 8) sc_law.nd rfl (Or.inl rfl) (pe_op op_mulX (pe_op op_mulX (pv 7) (pe_op op_shlW pe_int (pv 3))) (pe_cD D__law_draw (hr.less (by decide)) rfl (pa_cons (pv 2) (pa_cons (pe_op op_pow pe_int pe_int) pa_nil)))))
      (pss_cons (ps_set (i := 9) sc_law.nd rfl (Or.inl rfl) (pe_op op_rep (pe_lst (pa_cons pe_int pa_nil)) (pe_op op_shlW pe_int (pv 3))))
      (pss_cons (ps_if (pt_cmpR (kk (K := K) (F := rNeD) (P := OpR _ _) (op_neD hr.units)) (pe_cD D_lying (hr.less (by decide)) rfl (pa_cons (pv 3) (pa_cons (pv 8) (pa_cons (pv 7) (pa_cons (pe_op op_shlW pe_int (pv 3)) pa_nil))))) (pe_callTy (tupOfK (K := K)) (by rfl) B.tuple_ (by decide +kernel) (pa_cons (pv 9) pa_nil)) (nomark _))
        (pss_one (ps_ret pe_bl))
        pss_nil)
      (pss_cons (ps_augS (pv 9) (pe_cD D__law_side (hr.less (by decide)) rfl (pa_cons (pv 3) (pa_cons (pe_op op_add (pv 8) (pe_op op_mulX (pv 7) (pe_op op_shlW pe_int (pv 3)))) pa_nil))) get_listI pe_int ip_add set_list)
      (pss_one (ps_if (pt_cmpR (kk (K := K) (F := rNeD) (P := OpR _ _) (op_neD hr.units)) (pe_cD D_lying (hr.less (by decide)) rfl (pa_cons (pv 3) (pa_cons (pv 8) (pa_cons (pv 7) (pa_cons (pe_op op_add (pe_op op_shlW pe_int (pv 3)) pe_int) pa_nil))))) (pe_callTy (tupOfK (K := K)) (by rfl) B.tuple_ (by decide +kernel) (pa_cons (pv 9) pa_nil)) (nomark _))
       (pss_one (ps_ret pe_bl))
       pss_nil)))))))))))))
    (pss_one (ps_ret pe_bl))), ?_⟩)
  · obtain ⟨a, ns, rfl, _⟩ := h; rfl
  · obtain ⟨a, ns, rfl, hs, hn, q⟩ := h
    refine ⟨_, rfl, a, _, rfl, .inl hs, _, _, rfl, _, _, rfl, _, rfl, ?_, ?_, ?_⟩
    · split <;> split <;> omega
    · split <;> split <;> omega
    have hN : (if (if (((ns.map V.int).length : Nat) : Int) < 6 then (((ns.map V.int).length : Nat) : Int) else 6) > 1 then (if (((ns.map V.int).length : Nat) : Int) < 6 then (((ns.map V.int).length : Nat) : Int) else 6) else 1).toNat ≤ 6 := by split <;> split <;> omega
    generalize (if (if (((ns.map V.int).length : Nat) : Int) < 6 then (((ns.map V.int).length : Nat) : Int) else 6) > 1 then (if (((ns.map V.int).length : Nat) : Int) < 6 then (((ns.map V.int).length : Nat) : Int) else 6) else 1).toNat = n at hN
    refine for_range (lo := 0) (n := n) (fun i σ H2 => ∃ v1 v2 v3 v4 v5 v6 v7 v8 v9 : Option V, σ = [some (.ref a), v1, v2, v3, v4, v5, v6, v7, v8, v9] ∧ Same H H2) ⟨none, none, none, none, none, none, none, none, none, rfl, Same.refl H⟩ ?_ ?_
    · rintro i σ H2 hi ⟨v1, v2, v3, v4, v5, v6, v7, v8, v9, rfl, S2⟩
      refine ⟨_, rfl, _, rfl, a, ns, i, by show [V.ref a, V.int (0 + (i : Int))] = _; rw [Int.zero_add], S2.seq hs, by omega, fun p H3 np S3 p3 => ?_⟩
      refine ⟨_, rfl, p, 5, rfl, p3, by decide, by decide, fun d H4 d0 d5 b4 p4 => ?_⟩
      obtain ⟨k, rfl⟩ : ∃ k : Nat, d = (k : Int) := ⟨d.toNat, by omega⟩
      have hk : k ≤ 4 := by omega
      have e0 := Int.natCast_nonneg (2 ^ k)
      have eM : 2 ^ k ≤ 16 := (Nat.pow_le_pow_right (by decide) hk : 2 ^ k ≤ 2 ^ 4)
      have B4 : But p H3 H4 := b4
      refine ⟨_, rfl, sz, fun l hl => ?_⟩
      have nl : l ≠ p := pot_ne p4 hl
      have S5 := same_new hl (.lst [.int 2, .int 20, .int 201])
      refine ⟨_, rfl, p, 3, rfl, p4.same S5, by decide, by decide, fun j H5 j0 j3 b5 p5 => ?_⟩
      obtain ⟨j', rfl⟩ : ∃ j' : Nat, j = (j' : Int) := ⟨j.toNat, by omega⟩
      obtain ⟨z, hz, z1⟩ := menu3 (a := 2) (b := 20) (c := 201) j' (by omega)
      have z2 : 1 ≤ z ∧ z ≤ 201 := by rcases z1 with rfl | rfl | rfl <;> decide
      refine ⟨l, _, _, _, rfl, rfl, SqL.of (b5 _ _ nl upd_same), at_of (j := j') rfl hz, p, z, rfl, p5, z2.1, by omega, fun e H6 m0 m1 b6 p6 => ?_⟩
      obtain ⟨m, rfl⟩ : ∃ m : Nat, e = (m : Int) := ⟨e.toNat, by omega⟩
      have B6 := B4.trans ((same_but S5).trans (b5.trans b6))
      clear b4 b5 b6 S5 p4 p5 B4
      refine ⟨_, rfl, p, rfl, p6, fun b H7 hb b7 p7 => ⟨_, rfl, p, rfl, p7, fun s H8 hs8 b8 p8 => ⟨_, _, rfl, ?_⟩⟩⟩
      have B8 := B6.trans (b7.trans b8)
      clear B6 b7 b8 p7 p6
      have hb' : b < 2 ^ 300 := Nat.lt_trans hb (by decide)
      have hs' : s < 2 ^ 300 := Nat.lt_trans hs8 (by decide)
      refine ⟨_, rfl, _, rfl, _, rfl, _, rfl, k, b, s, m, rfl, hk, hb', hs', by omega, fun T1 H9 S9 hT1 => ?_⟩
      refine ⟨_, rfl, _, rfl, _, rfl, _, rfl, k, b, s, m, rfl, hk, hb', hs', by omega, fun T2 H10 S10 hT2 => ?_⟩
      refine ⟨_, _, tupI_dp (SqT.of (S10 _ _ hT1)), tupI_dp (SqT.of hT2), tupI_sh _, tupI_sh _, ?_⟩
      rw [tupI_refl]
      refine ⟨_, rfl, ifF rfl ?_⟩
      have p10 := p8.same (S9.trans S10)
      have B10 := B8.trans (same_but (S9.trans S10))
      clear B8 S9 S10 hT1 hT2 p8
      refine ⟨_, rfl, p, 31, rfl, p10, by decide, by decide, fun e' H11 e1 e2 b11 p11 => ?_⟩
      obtain ⟨e, rfl⟩ : ∃ e : Nat, e' = (e : Int) := ⟨e'.toNat, by omega⟩
      have eP : 2 ^ e ≤ 2 ^ 30 := Nat.pow_le_pow_right (by decide) (by omega)
      have hP := Nat.two_pow_pos e
      have eP0 := Int.natCast_nonneg (2 ^ e)
      refine ⟨_, _, rfl, rfl, shl_ok (by omega), ?_⟩
      refine ⟨_, rfl, _, rfl, _, _, rfl, rfl, shl_ok (by omega), _, _, rfl, rfl, ?_, ?_⟩
      · rw [shl_eq, shl_eq]; exact mulx 40 10 (by omega) (by omega)
      refine ⟨_, rfl, _, _, rfl, rfl, ⟨by decide, by decide, by decide⟩, p, _, rfl, p11, by decide, by decide, fun g' H12 g0 g1 b12 p12 => ?_⟩
      obtain ⟨g, rfl⟩ : ∃ g : Nat, g' = (g : Int) := ⟨g'.toNat, by omega⟩
      have hPk : 2 ^ e * 2 ^ k ≤ 2 ^ 30 * 16 := Nat.mul_le_mul eP eM
      have hg : (g : Int) < 1000000000 := g1
      have hF : 2 ^ e * 2 ^ k * g ≤ 2 ^ 30 * 16 * 1000000000 := Nat.mul_le_mul hPk (by omega)
      refine ⟨_, _, rfl, rfl, ?_, ?_⟩
      · rw [shl_eq, shl_eq]
        exact mulx 60 40 (by rw [← Int.natCast_mul, Int.natAbs_natCast]; exact Nat.lt_of_le_of_lt hPk (by decide)) (by omega)
      have B12 := B10.trans (b11.trans b12)
      have S12 := S2.trans (but_same np S3 B12)
      clear B10 b11 b12 B12 p10 p11 p12 p3 np S3 S2
      have eF : ((1 * 2 ^ ((e : Int)).toNat : Int) * (1 * 2 ^ ((k : Int)).toNat) * (g : Int)) = ((2 ^ e * 2 ^ k * g : Nat) : Int) := by rw [shl_eq, shl_eq]; push_cast; rfl
      -- what is due
      refine ⟨sz, fun l2 hl2 => ⟨_, rfl, _, _, rfl, rfl, shl_ok (by omega), l2, _, _, rfl, rfl, upd_same, by rw [shl_eq]; omega, by rw [shl_eq]; omega, ?_, fun L hL => ?_⟩⟩
      · rw [shl_eq, Int.toNat_natCast]
        exact small (by show 1 * _ ≤ 1000; omega)
      have eL : (List.replicate (1 * 2 ^ ((k : Int)).toNat : Int).toNat [V.int 1]).flatten = (cn (2 ^ k) (sds k (2 ^ e * 2 ^ k * g) (2 ^ e) (2 ^ k))).map V.int := by
        rw [shl_eq, Int.toNat_natCast, rep_flat, ← cn_block (e := e) (m := g) hk]
      have S13 := (same_new hl2 (.lst [.int 1])).trans (same_new hL (.lst ((List.replicate (1 * 2 ^ ((k : Int)).toNat : Int).toNat [V.int 1]).flatten)))
      have hL13 : (upd (upd H12 l2 (.lst [.int 1])) L (.lst ((List.replicate (1 * 2 ^ ((k : Int)).toNat : Int).toNat [V.int 1]).flatten))) L = some (.lst ((cn (2 ^ k) (sds k (2 ^ e * 2 ^ k * g) (2 ^ e) (2 ^ k))).map V.int)) := by rw [upd_same, eL]
      have nL := (same_new hl2 (.lst [.int 1])).free hL
      have hj := fp_lt (k := k) (2 ^ e * 2 ^ k * g + 2 ^ k * 2 ^ e)
      have hF' : 2 ^ e * 2 ^ k * g < 2 ^ 300 := Nat.lt_of_le_of_lt hF (by decide)
      have hP' : 2 ^ e < 2 ^ 300 := Nat.lt_of_le_of_lt eP (by decide)
      refine ⟨_, rfl, _, rfl, _, rfl, _, rfl, _, _, rfl, rfl, shl_ok (by omega), k, 2 ^ e * 2 ^ k * g, 2 ^ e, 2 ^ k, ?_, hk, hF', hP', by omega, fun T3 H14 S14 hT3 => ?_⟩
      · show [V.int (k : Int), V.int ((1 * 2 ^ ((e : Int)).toNat : Int) * (1 * 2 ^ ((k : Int)).toNat) * (g : Int)), V.int (1 * 2 ^ ((e : Int)).toNat : Int), V.int (1 * 2 ^ ((k : Int)).toNat : Int)] = _
        rw [eF, shl_eq, shl_eq] <;> rfl
      refine ⟨_, rfl, L, _, rfl, .inl ⟨SqL.of (S14 _ _ hL13), fun T4 hT4 => ?_⟩⟩
      have S15 := same_new hT4 (.tup ((cn (2 ^ k) (sds k (2 ^ e * 2 ^ k * g) (2 ^ e) (2 ^ k))).map V.int))
      refine ⟨_, _, tupI_dp (SqT.of (S15 _ _ hT3)), tupI_dp (SqT.of upd_same), tupI_sh _, tupI_sh _, ?_⟩
      rw [tupI_refl]
      refine ⟨_, rfl, ifF rfl ?_⟩
      have hL15 := S15 _ _ (S14 _ _ hL13)
      refine ⟨_, rfl, _, rfl, _, rfl, _, rfl, _, rfl, _, _, rfl, rfl, shl_ok (by omega), _, _, rfl, rfl, ?_, _, _, rfl, rfl, k, 2 ^ e * 2 ^ k * g + 2 ^ k * 2 ^ e, ?_, hk, ?_⟩
      · rw [shl_eq, shl_eq]; exact mulx 40 10 (by omega) (by omega)
      · show [V.int (k : Int), V.int ((1 * 2 ^ ((e : Int)).toNat : Int) * (1 * 2 ^ ((k : Int)).toNat) * (g : Int) + (1 * 2 ^ ((e : Int)).toNat : Int) * (1 * 2 ^ ((k : Int)).toNat : Int))] = _
        rw [eF, shl_eq, shl_eq, ← Int.natCast_mul, ← Int.natCast_add, Nat.mul_comm (2 ^ e) (2 ^ k)] <;> rfl
      refine ⟨L, _, _, _, rfl, rfl, SqL.of hL15, at_of (j := fp k (2 ^ e * 2 ^ k * g + 2 ^ k * 2 ^ e)) rfl (by rw [List.getElem?_map, cn_at hj] <;> rfl), _, _, rfl, rfl, L, _, _, _, rfl, rfl, hL15, ixn (by rw [List.length_map, cn_len]; exact hj), ?_⟩
      have hL16 : (upd (upd H14 T4 (.tup ((cn (2 ^ k) (sds k (2 ^ e * 2 ^ k * g) (2 ^ e) (2 ^ k))).map V.int))) L (.lst (((cn (2 ^ k) (sds k (2 ^ e * 2 ^ k * g) (2 ^ e) (2 ^ k))).map V.int).set (fp k (2 ^ e * 2 ^ k * g + 2 ^ k * 2 ^ e)) (.int (((sds k (2 ^ e * 2 ^ k * g) (2 ^ e) (2 ^ k)).count (fp k (2 ^ e * 2 ^ k * g + 2 ^ k * 2 ^ e)) : Nat) + 1))))) L = some (.lst ((cn (2 ^ k) (sds k (2 ^ e * 2 ^ k * g) (2 ^ e) (2 ^ k + 1))).map V.int)) := by
        rw [upd_same, sds_succ, ← cn_set hj, List.map_set] <;> rfl
      have S16 : Same H12 (upd (upd H14 T4 (.tup ((cn (2 ^ k) (sds k (2 ^ e * 2 ^ k * g) (2 ^ e) (2 ^ k))).map V.int))) L (.lst (((cn (2 ^ k) (sds k (2 ^ e * 2 ^ k * g) (2 ^ e) (2 ^ k))).map V.int).set (fp k (2 ^ e * 2 ^ k * g + 2 ^ k * 2 ^ e)) (.int (((sds k (2 ^ e * 2 ^ k * g) (2 ^ e) (2 ^ k)).count (fp k (2 ^ e * 2 ^ k * g + 2 ^ k * 2 ^ e)) : Nat) + 1))))) :=
        but_same nL (S13.trans (S14.trans S15)) But.upd
      refine ⟨_, rfl, _, rfl, _, rfl, _, rfl, _, _, rfl, rfl, shl_ok (by omega), _, _, rfl, rfl, k, 2 ^ e * 2 ^ k * g, 2 ^ e, 2 ^ k + 1, ?_, hk, hF', hP', by omega, fun T5 H17 S17 hT5 => ?_⟩
      · show [V.int (k : Int), V.int ((1 * 2 ^ ((e : Int)).toNat : Int) * (1 * 2 ^ ((k : Int)).toNat) * (g : Int)), V.int (1 * 2 ^ ((e : Int)).toNat : Int), V.int ((1 * 2 ^ ((k : Int)).toNat : Int) + 1)] = _
        rw [eF, shl_eq, shl_eq] <;> rfl
      refine ⟨_, rfl, L, _, rfl, .inl ⟨SqL.of (S17 _ _ hL16), fun T6 hT6 => ?_⟩⟩
      have S18 := same_new hT6 (.tup ((cn (2 ^ k) (sds k (2 ^ e * 2 ^ k * g) (2 ^ e) (2 ^ k + 1))).map V.int))
      refine ⟨_, _, tupI_dp (SqT.of (S18 _ _ hT5)), tupI_dp (SqT.of upd_same), tupI_sh _, tupI_sh _, ?_⟩
      rw [tupI_refl]
      refine ⟨_, rfl, ifF rfl ?_⟩
      exact ⟨_, _, _, _, _, _, _, _, _, rfl, S12.trans (S16.trans (S17.trans S18))⟩
    · rintro σ H2 ⟨v1, v2, v3, v4, v5, v6, v7, v8, v9, rfl, S2⟩
      exact q _
end
structure AllD (K : PySem.W.Frag) (mg : Str → Option Value) : Prop where
  d_is_whole : Df K mg "is_whole" s_is_whole ["thing"]
  d_is_within : Df K mg "is_within" s_is_within ["thing", "least", "most"]
  d_want_within : Df K mg "want_within" s_want_within ["thing", "least", "most"]
  d_want_from : Df K mg "want_from" s_want_from ["thing", "least"]
  d_want_net : Dfd K mg "want_net" s_want_net ["k", "deepest"] [.int 4]
  d_piece_of : Df K mg "piece_of" s_piece_of ["k", "address"]
  d_folded_pieces : Df K mg "folded_pieces" s_folded_pieces ["k", "address"]
  d_side_at : Df K mg "side_at" s_side_at ["k", "address"]
  d_lying : Df K mg "lying" s_lying ["k", "begin", "step", "many"]
  d__law_cell : Df K mg "_law_cell" s__law_cell ["_law_script", "_law_k"]
  d__law_pot : Df K mg "_law_pot" s__law_pot ["_law_script", "_law_k"]
  d__law_draw : Df K mg "_law_draw" s__law_draw ["_law_pot_here", "_law_many"]
  d__law_far : Df K mg "_law_far" s__law_far ["_law_pot_here"]
  d__law_side : Df K mg "_law_side" s__law_side ["_law_k", "_law_address"]
  d__law_counted : Df K mg "_law_counted" s__law_counted ["_law_k", "_law_begin", "_law_step", "_law_many"]
  d_law : Df K mg "law" s_law ["_law_script"]
  bl : Bl K mg
theorem all_mk {w : World} {K : PySem.W.Frag} {h : Heap} {mg : Str → Option Value} (X : K.In h) (G : h.Ns mainGlobals mg)
    {f1 f2 f3 f4 f5 f6 f7 f8 f9 f10 f11 f12 f13 f14 f15 f16 : Addr} {od1 an1 od2 an2 od3 an3 od4 an4 od5 an5 od6 an6 od7 an7 od8 an8 od9 an9 od10 an10 od11 an11 od12 an12 od13 an13 od14 an14 od15 an15 od16 an16 : Option Addr} {sl1 sl2 sl3 sl4 sl5 sl6 sl7 sl8 sl9 sl10 sl11 sl12 sl13 sl14 sl15 sl16 : Array (Option Value)} {oc1 kV1 dc1 pm1 cd1 ct1 oc2 kV2 dc2 pm2 cd2 ct2 oc3 kV3 dc3 pm3 cd3 ct3 oc4 kV4 dc4 pm4 cd4 ct4 oc5 kV5 dc5 pm5 cd5 ct5 oc6 kV6 dc6 pm6 cd6 ct6 oc7 kV7 dc7 pm7 cd7 ct7 oc8 kV8 dc8 pm8 cd8 ct8 oc9 kV9 dc9 pm9 cd9 ct9 oc10 kV10 dc10 pm10 cd10 ct10 oc11 kV11 dc11 pm11 cd11 ct11 oc12 kV12 dc12 pm12 cd12 ct12 oc13 kV13 dc13 pm13 cd13 ct13 oc14 kV14 dc14 pm14 cd14 ct14 oc15 kV15 dc15 pm15 cd15 ct15 oc16 kV16 dc16 pm16 cd16 ct16 : Value}
    {da5 : Addr}
    (a1 : PySem.W.nsIn K mainGlobals "is_whole" = some (some (.ref f1))) (l1 : K.lookup f1 = some ⟨oc1, od1, .func (PySem.W.fnOf "is_whole" "is_whole" (defArgs s_is_whole) (defBody s_is_whole) (defScope s_is_whole) .none kV1 dc1 pm1 an1 cd1 ct1), sl1⟩) (c1 : PySem.W.codeIn K cd1 "is_whole" = true) (k1 : PySem.W.keepIn K (.ref f1) = true)
    (a2 : PySem.W.nsIn K mainGlobals "is_within" = some (some (.ref f2))) (l2 : K.lookup f2 = some ⟨oc2, od2, .func (PySem.W.fnOf "is_within" "is_within" (defArgs s_is_within) (defBody s_is_within) (defScope s_is_within) .none kV2 dc2 pm2 an2 cd2 ct2), sl2⟩) (c2 : PySem.W.codeIn K cd2 "is_within" = true) (k2 : PySem.W.keepIn K (.ref f2) = true)
    (a3 : PySem.W.nsIn K mainGlobals "want_within" = some (some (.ref f3))) (l3 : K.lookup f3 = some ⟨oc3, od3, .func (PySem.W.fnOf "want_within" "want_within" (defArgs s_want_within) (defBody s_want_within) (defScope s_want_within) .none kV3 dc3 pm3 an3 cd3 ct3), sl3⟩) (c3 : PySem.W.codeIn K cd3 "want_within" = true) (k3 : PySem.W.keepIn K (.ref f3) = true)
    (a4 : PySem.W.nsIn K mainGlobals "want_from" = some (some (.ref f4))) (l4 : K.lookup f4 = some ⟨oc4, od4, .func (PySem.W.fnOf "want_from" "want_from" (defArgs s_want_from) (defBody s_want_from) (defScope s_want_from) .none kV4 dc4 pm4 an4 cd4 ct4), sl4⟩) (c4 : PySem.W.codeIn K cd4 "want_from" = true) (k4 : PySem.W.keepIn K (.ref f4) = true)
    (a5 : PySem.W.nsIn K mainGlobals "want_net" = some (some (.ref f5))) (l5 : K.lookup f5 = some ⟨oc5, od5, .func (PySem.W.fnOf "want_net" "want_net" (defArgs s_want_net) (defBody s_want_net) (defScope s_want_net) (.ref da5) kV5 dc5 pm5 an5 cd5 ct5), sl5⟩) (c5 : PySem.W.codeIn K cd5 "want_net" = true) (k5 : PySem.W.keepIn K (.ref f5) = true)
    {dt5_0 : Tok} {dd5 : Option Addr} {dn5 : Nat} {dz5 : Array (Option Value)} (dl5 : K.lookup da5 = some ⟨.type "tuple", dd5, .seq #[.int 4 dt5_0] dn5, dz5⟩)
    (a6 : PySem.W.nsIn K mainGlobals "piece_of" = some (some (.ref f6))) (l6 : K.lookup f6 = some ⟨oc6, od6, .func (PySem.W.fnOf "piece_of" "piece_of" (defArgs s_piece_of) (defBody s_piece_of) (defScope s_piece_of) .none kV6 dc6 pm6 an6 cd6 ct6), sl6⟩) (c6 : PySem.W.codeIn K cd6 "piece_of" = true) (k6 : PySem.W.keepIn K (.ref f6) = true)
    (a7 : PySem.W.nsIn K mainGlobals "folded_pieces" = some (some (.ref f7))) (l7 : K.lookup f7 = some ⟨oc7, od7, .func (PySem.W.fnOf "folded_pieces" "folded_pieces" (defArgs s_folded_pieces) (defBody s_folded_pieces) (defScope s_folded_pieces) .none kV7 dc7 pm7 an7 cd7 ct7), sl7⟩) (c7 : PySem.W.codeIn K cd7 "folded_pieces" = true) (k7 : PySem.W.keepIn K (.ref f7) = true)
    (a8 : PySem.W.nsIn K mainGlobals "side_at" = some (some (.ref f8))) (l8 : K.lookup f8 = some ⟨oc8, od8, .func (PySem.W.fnOf "side_at" "side_at" (defArgs s_side_at) (defBody s_side_at) (defScope s_side_at) .none kV8 dc8 pm8 an8 cd8 ct8), sl8⟩) (c8 : PySem.W.codeIn K cd8 "side_at" = true) (k8 : PySem.W.keepIn K (.ref f8) = true)
    (a9 : PySem.W.nsIn K mainGlobals "lying" = some (some (.ref f9))) (l9 : K.lookup f9 = some ⟨oc9, od9, .func (PySem.W.fnOf "lying" "lying" (defArgs s_lying) (defBody s_lying) (defScope s_lying) .none kV9 dc9 pm9 an9 cd9 ct9), sl9⟩) (c9 : PySem.W.codeIn K cd9 "lying" = true) (k9 : PySem.W.keepIn K (.ref f9) = true)
    (a10 : PySem.W.nsIn K mainGlobals "_law_cell" = some (some (.ref f10))) (l10 : K.lookup f10 = some ⟨oc10, od10, .func (PySem.W.fnOf "_law_cell" "_law_cell" (defArgs s__law_cell) (defBody s__law_cell) (defScope s__law_cell) .none kV10 dc10 pm10 an10 cd10 ct10), sl10⟩) (c10 : PySem.W.codeIn K cd10 "_law_cell" = true) (k10 : PySem.W.keepIn K (.ref f10) = true)
    (a11 : PySem.W.nsIn K mainGlobals "_law_pot" = some (some (.ref f11))) (l11 : K.lookup f11 = some ⟨oc11, od11, .func (PySem.W.fnOf "_law_pot" "_law_pot" (defArgs s__law_pot) (defBody s__law_pot) (defScope s__law_pot) .none kV11 dc11 pm11 an11 cd11 ct11), sl11⟩) (c11 : PySem.W.codeIn K cd11 "_law_pot" = true) (k11 : PySem.W.keepIn K (.ref f11) = true)
    (a12 : PySem.W.nsIn K mainGlobals "_law_draw" = some (some (.ref f12))) (l12 : K.lookup f12 = some ⟨oc12, od12, .func (PySem.W.fnOf "_law_draw" "_law_draw" (defArgs s__law_draw) (defBody s__law_draw) (defScope s__law_draw) .none kV12 dc12 pm12 an12 cd12 ct12), sl12⟩) (c12 : PySem.W.codeIn K cd12 "_law_draw" = true) (k12 : PySem.W.keepIn K (.ref f12) = true)
    (a13 : PySem.W.nsIn K mainGlobals "_law_far" = some (some (.ref f13))) (l13 : K.lookup f13 = some ⟨oc13, od13, .func (PySem.W.fnOf "_law_far" "_law_far" (defArgs s__law_far) (defBody s__law_far) (defScope s__law_far) .none kV13 dc13 pm13 an13 cd13 ct13), sl13⟩) (c13 : PySem.W.codeIn K cd13 "_law_far" = true) (k13 : PySem.W.keepIn K (.ref f13) = true)
    (a14 : PySem.W.nsIn K mainGlobals "_law_side" = some (some (.ref f14))) (l14 : K.lookup f14 = some ⟨oc14, od14, .func (PySem.W.fnOf "_law_side" "_law_side" (defArgs s__law_side) (defBody s__law_side) (defScope s__law_side) .none kV14 dc14 pm14 an14 cd14 ct14), sl14⟩) (c14 : PySem.W.codeIn K cd14 "_law_side" = true) (k14 : PySem.W.keepIn K (.ref f14) = true)
    (a15 : PySem.W.nsIn K mainGlobals "_law_counted" = some (some (.ref f15))) (l15 : K.lookup f15 = some ⟨oc15, od15, .func (PySem.W.fnOf "_law_counted" "_law_counted" (defArgs s__law_counted) (defBody s__law_counted) (defScope s__law_counted) .none kV15 dc15 pm15 an15 cd15 ct15), sl15⟩) (c15 : PySem.W.codeIn K cd15 "_law_counted" = true) (k15 : PySem.W.keepIn K (.ref f15) = true)
    (a16 : PySem.W.nsIn K mainGlobals "law" = some (some (.ref f16))) (l16 : K.lookup f16 = some ⟨oc16, od16, .func (PySem.W.fnOf "law" "law" (defArgs s_law) (defBody s_law) (defScope s_law) .none kV16 dc16 pm16 an16 cd16 ct16), sl16⟩) (c16 : PySem.W.codeIn K cd16 "law" = true) (k16 : PySem.W.keepIn K (.ref f16) = true)
    (z0 : PySem.W.nsIn K mainGlobals "bool" = some none)
    (z1 : PySem.W.nsIn K mainGlobals "divmod" = some none)
    (z2 : PySem.W.nsIn K mainGlobals "int" = some none)
    (z3 : PySem.W.nsIn K mainGlobals "isinstance" = some none)
    (z4 : PySem.W.nsIn K mainGlobals "len" = some none)
    (z5 : PySem.W.nsIn K mainGlobals "max" = some none)
    (z6 : PySem.W.nsIn K mainGlobals "min" = some none)
    (z7 : PySem.W.nsIn K mainGlobals "range" = some none)
    (z8 : PySem.W.nsIn K mainGlobals "tuple" = some none)
    {tc0 : Tok} (cst0 : PySem.W.nsIn K mainGlobals "MOST_LAID" = some (some (.int 200 tc0)))
    : AllD K mg := by
  exact ⟨Df.of l1 c1 k1 (PySem.W.mg_of X G a1) (fun _ _ _ _ _ _ us hl => match us, hl with | [_], _ => rfl), Df.of l2 c2 k2 (PySem.W.mg_of X G a2) (fun _ _ _ _ _ _ us hl => match us, hl with | [_, _, _], _ => rfl), Df.of l3 c3 k3 (PySem.W.mg_of X G a3) (fun _ _ _ _ _ _ us hl => match us, hl with | [_, _, _], _ => rfl), Df.of l4 c4 k4 (PySem.W.mg_of X G a4) (fun _ _ _ _ _ _ us hl => match us, hl with | [_, _], _ => rfl), Dfd.of (n := 1) l5 c5 k5 (PySem.W.mg_of X G a5) dl5 rfl (.cons ⟨_, rfl⟩ .nil) rfl (fun us hl => match us, hl with | [_], _ => ⟨_, rfl, rfl⟩), Df.of l6 c6 k6 (PySem.W.mg_of X G a6) (fun _ _ _ _ _ _ us hl => match us, hl with | [_, _], _ => rfl), Df.of l7 c7 k7 (PySem.W.mg_of X G a7) (fun _ _ _ _ _ _ us hl => match us, hl with | [_, _], _ => rfl), Df.of l8 c8 k8 (PySem.W.mg_of X G a8) (fun _ _ _ _ _ _ us hl => match us, hl with | [_, _], _ => rfl), Df.of l9 c9 k9 (PySem.W.mg_of X G a9) (fun _ _ _ _ _ _ us hl => match us, hl with | [_, _, _, _], _ => rfl), Df.of l10 c10 k10 (PySem.W.mg_of X G a10) (fun _ _ _ _ _ _ us hl => match us, hl with | [_, _], _ => rfl), Df.of l11 c11 k11 (PySem.W.mg_of X G a11) (fun _ _ _ _ _ _ us hl => match us, hl with | [_, _], _ => rfl), Df.of l12 c12 k12 (PySem.W.mg_of X G a12) (fun _ _ _ _ _ _ us hl => match us, hl with | [_, _], _ => rfl), Df.of l13 c13 k13 (PySem.W.mg_of X G a13) (fun _ _ _ _ _ _ us hl => match us, hl with | [_], _ => rfl), Df.of l14 c14 k14 (PySem.W.mg_of X G a14) (fun _ _ _ _ _ _ us hl => match us, hl with | [_, _], _ => rfl), Df.of l15 c15 k15 (PySem.W.mg_of X G a15) (fun _ _ _ _ _ _ us hl => match us, hl with | [_, _, _, _], _ => rfl), Df.of l16 c16 k16 (PySem.W.mg_of X G a16) (fun _ _ _ _ _ _ us hl => match us, hl with | [_], _ => rfl), ⟨PySem.W.mg_none_of X G z0, PySem.W.mg_none_of X G z1, PySem.W.mg_none_of X G z2, PySem.W.mg_none_of X G z3, PySem.W.mg_none_of X G z4, PySem.W.mg_none_of X G z5, PySem.W.mg_none_of X G z6, PySem.W.mg_none_of X G z7, PySem.W.mg_none_of X G z8, ⟨_, PySem.W.mg_of X G cst0⟩⟩⟩

theorem law_fd {P : Program} {w : World} {K : PySem.W.Frag} {mg : Str → Option Value} {fa : Addr} (A : AllD K mg) (hfa : mg "law" = some (.ref fa)) :
    ∃ fd : FuncData, (∀ (s : Shared) (v : Value), BindsTo s fd ⟨[v], []⟩ [("_law_script", v)]) ∧ ∀ base : Heap, K.In base → base.Ns mainGlobals mg → FnG P w K mg base CX0 6 fa fd ["_law_script"] (spLaw K) := by
  obtain ⟨f, fd, F, m, b⟩ := A.d_law.ex
  have e := hfa.symm.trans m
  cases e
  refine ⟨fd, fun s v => by obtain ⟨oc, od, kV, doc, pm, an, cdv, ct, osl, rfl, lk, hcd⟩ := F.ex; exact .of_eq rfl, fun base _ _ => ?_⟩
  have B := A.bl
  have D_is_whole : Dn P w K mg base 1 "is_whole" ["thing"] spIsWhole := k_is_whole B A.d_is_whole 
  have D_is_within : Dn P w K mg base 2 "is_within" ["thing", "least", "most"] spIsWithin := k_is_within B A.d_is_within D_is_whole
  have D_want_net : DnD P w K mg base 3 "want_net" ["k", "deepest"] [.int 4] spWantNet := k_want_net B A.d_want_net D_is_within
  have D_want_within : Dn P w K mg base 3 "want_within" ["thing", "least", "most"] spWantWithin := k_want_within B A.d_want_within D_is_within
  have D_want_from : Dn P w K mg base 2 "want_from" ["thing", "least"] spWantFrom := k_want_from B A.d_want_from D_is_whole
  have D_piece_of : Dn P w K mg base 1 "piece_of" ["k", "address"] spPiece := k_piece_of B A.d_piece_of 
  have D_folded_pieces : Dn P w K mg base 2 "folded_pieces" ["k", "address"] spFolded8 := k_folded_pieces B A.d_folded_pieces D_piece_of
  have D_side_at : Dn P w K mg base 3 "side_at" ["k", "address"] spSideAt := k_side_at B A.d_side_at D_folded_pieces
  have D__law_cell : Dn P w K mg base 1 "_law_cell" ["_law_script", "_law_k"] (spCell K) := k__law_cell B A.d__law_cell 
  have D__law_pot : Dn P w K mg base 2 "_law_pot" ["_law_script", "_law_k"] (spPot K) := k__law_pot B A.d__law_pot D__law_cell
  have D__law_draw : Dn P w K mg base 1 "_law_draw" ["_law_pot_here", "_law_many"] spTake := k__law_draw B A.d__law_draw 
  have D__law_far : Dn P w K mg base 2 "_law_far" ["_law_pot_here"] spFar := k__law_far B A.d__law_far D__law_draw
  have D_lying : Dn P w K mg base 4 "lying" ["k", "begin", "step", "many"] (spLying K) := k_lying B A.d_lying D_want_net D_want_from D_want_within D_side_at
  have D__law_side : Dn P w K mg base 1 "_law_side" ["_law_k", "_law_address"] spLSide2 := k__law_side B A.d__law_side 
  have D__law_counted : Dn P w K mg base 2 "_law_counted" ["_law_k", "_law_begin", "_law_step", "_law_many"] (spLying K) := k__law_counted B A.d__law_counted D__law_side
  exact k_law B F D__law_pot D__law_draw D__law_far D__law_counted D__law_side D_lying

theorem walk {l : PySem.W.OpenLaw} {q : Program} {loose : List Str} {XP : (Str → Option Value) → Heap → Prop} {YP : World → Heap → Prop} {d : DefRec} {K : Params → PySem.W.Frag} (hn : l.most = some 63) (hdf : d.params.defaults = [])
    (hY : ∀ (w : World) (h : Heap), YP w h → (K w.params).In h) (hname : d.name = "law") (F : ∀ (w : World) (mg : Str → Option Value) (h : Heap), (K w.params).In h → h.Ns mainGlobals mg → AllD (K w.params) mg) :
    PySem.W.WalkO q loose XP YP l.row.toRowW d [] (fun f vs => PySem.call f vs) :=
  walk_G (n := 63) (k := 6) (x := "_law_script") (sp := spLaw) hn (by decide) hdf ⟨rfl, by decide, by decide⟩ hY
    (fun w mg fa h KX G hfa => law_fd (F w mg h KX G) (by rw [hname] at hfa; exact hfa)) fun _ _ a ns hl hS => ⟨a, ns, rfl, hS, hl, fun _ => rfl⟩
end Toy
open PySem PySem.W PyProof.Rows
set_option maxRecDepth 100000 in
set_option maxHeartbeats 0 in
theorem PySem.Challenge.cw_joinedasks_k82_addresses_by_steps_holds : PySem.Challenge.rw_joinedasks_k82_addresses_by_steps.Holds := by
  w_on; o_law; k_head; (case hw => w_witness2)
  k_fill
  refine Toy.walk (l := PySem.Challenge.rw_joinedasks_k82_addresses_by_steps) rfl rfl (fun w h Y => PySem.W.kIn_of Y) rfl ?F
  case F =>
    intro w mg h KX G
    refine' Toy.all_mk (w := w) KX G ?a1 ?l1 ?c1 ?k1 ?a2 ?l2 ?c2 ?k2 ?a3 ?l3 ?c3 ?k3 ?a4 ?l4 ?c4 ?k4 ?a5 ?l5 ?c5 ?k5 ?dl5 ?a6 ?l6 ?c6 ?k6 ?a7 ?l7 ?c7 ?k7 ?a8 ?l8 ?c8 ?k8 ?a9 ?l9 ?c9 ?k9 ?a10 ?l10 ?c10 ?k10 ?a11 ?l11 ?c11 ?k11 ?a12 ?l12 ?c12 ?k12 ?a13 ?l13 ?c13 ?k13 ?a14 ?l14 ?c14 ?k14 ?a15 ?l15 ?c15 ?k15 ?a16 ?l16 ?c16 ?k16 ?z0 ?z1 ?z2 ?z3 ?z4 ?z5 ?z6 ?z7 ?z8 ?cst0
    (case a1 => k_is)
    (case l1 => k_is)
    (case c1 => k_is)
    (case k1 => k_is)
    (case a2 => k_is)
    (case l2 => k_is)
    (case c2 => k_is)
    (case k2 => k_is)
    (case a3 => k_is)
    (case l3 => k_is)
    (case c3 => k_is)
    (case k3 => k_is)
    (case a4 => k_is)
    (case l4 => k_is)
    (case c4 => k_is)
    (case k4 => k_is)
    (case a5 => k_is)
    (case l5 => k_is)
    (case c5 => k_is)
    (case k5 => k_is)
    (case dl5 => k_is)
    (case a6 => k_is)
    (case l6 => k_is)
    (case c6 => k_is)
    (case k6 => k_is)
    (case a7 => k_is)
    (case l7 => k_is)
    (case c7 => k_is)
    (case k7 => k_is)
    (case a8 => k_is)
    (case l8 => k_is)
    (case c8 => k_is)
    (case k8 => k_is)
    (case a9 => k_is)
    (case l9 => k_is)
    (case c9 => k_is)
    (case k9 => k_is)
    (case a10 => k_is)
    (case l10 => k_is)
    (case c10 => k_is)
    (case k10 => k_is)
    (case a11 => k_is)
    (case l11 => k_is)
    (case c11 => k_is)
    (case k11 => k_is)
    (case a12 => k_is)
    (case l12 => k_is)
    (case c12 => k_is)
    (case k12 => k_is)
    (case a13 => k_is)
    (case l13 => k_is)
    (case c13 => k_is)
    (case k13 => k_is)
    (case a14 => k_is)
    (case l14 => k_is)
    (case c14 => k_is)
    (case k14 => k_is)
    (case a15 => k_is)
    (case l15 => k_is)
    (case c15 => k_is)
    (case k15 => k_is)
    (case a16 => k_is)
    (case l16 => k_is)
    (case c16 => k_is)
    (case k16 => k_is)
    (case z0 => k_is)
    (case z1 => k_is)
    (case z2 => k_is)
    (case z3 => k_is)
    (case z4 => k_is)
    (case z5 => k_is)
    (case z6 => k_is)
    (case z7 => k_is)
    (case z8 => k_is)
    (case cst0 => k_is)
#print axioms PySem.Challenge.cw_joinedasks_k82_addresses_by_steps_holds

